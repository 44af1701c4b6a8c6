import PyProof.Rows.All
import Wide.All
import OpenK.AllK
import Wide.FinOn
import KE.KIsAll
import KE.KTryMore
import KE.GoesEnum
import KE.BitLaws
import PyProof.ListRange
import HandS.Base
import HandS.Call
import HandS.Exc
import HandS.ExcCtx
import HandS.ExcIs
import HandS.ExcField
import HandS.HotCalls
import HandS.ForMost
import HandS.ForExc
import HandS.Walk
import HandS.WordsExc
import HandS.Defaults
import HandS.Rev
import HandS.RevTup
import HandS.Zip
import HandS.Deep
import HandS.TupAny
import HandS.TupMul
import HandS.IsInst
import HandS.Conv
import HandS.Strs
import HandS.SetFor
import HandS.SortInts
import HandS.WideBits
import HandS.Head0
import HandS.Head1
import HandS.Head2
import HandS.HeadEnd
import HandS.HeadHook1
import HandS.HeadHook2
import PySem.Challenge.RW_everyhands_k96_whole_ways_by_all_coins
import HandS.ExcInit
import HandS.Nested
import KE.KExcSuper
import PyProof.StrOps2
import KE.KTupSum
import HandS.Dict
import HandS.Iter
set_option Elab.async false
set_option linter.all false
set_option maxRecDepth 100000
set_option maxHeartbeats 4000000
namespace Eh
open PySem PySem.Spec PyProof.Rows L2

/-! ### data in the heap -/
mutual
inductive Rp (F : Hp) : V → PyData → Prop
  | non : Rp F .non .none
  | bl (b : Bool) : Rp F (.bl b) (.bool b)
  | int (i : Int) : Rp F (.int i) (.int i)
  | str (x : Str) : Rp F (.str x) (.str x)
  | lst {a : Addr} {xs : List V} {ds : List PyData} : F a = some (.lst xs) → RpAll F xs ds → Rp F (.ref a) (.list ds)
  | tup {a : Addr} {xs : List V} {ds : List PyData} : F a = some (.tup xs) → RpAll F xs ds → Rp F (.ref a) (.tuple ds)
  | dct {a : Addr} {o : Obj} {kvs : List (Int × Int)} : F a = some (.frz o (.dK (kvs.map fun p => (Sum.inl p.1, V.int p.2)))) → Rp F (.ref a) (.dict (kvs.map fun p => (.int p.1, .int p.2)))
inductive RpAll (F : Hp) : List V → List PyData → Prop
  | nil : RpAll F [] []
  | cons {v : V} {vs : List V} {d : PyData} {ds : List PyData} : Rp F v d → RpAll F vs ds → RpAll F (v :: vs) (d :: ds)
end

def Sub (F H : Hp) : Prop := ∀ a o, F a = some o → H a = some o
theorem Sub.refl (F : Hp) : Sub F F := fun _ _ h => h
theorem Sub.trans {F G H : Hp} (a : Sub F G) (b : Sub G H) : Sub F H := fun x o h => b x o (a x o h)
theorem Sub.new {H : Hp} {p : Addr} {o : HO} (h : H p = none) : Sub H (upd H p o) := fun a u e => by
  rw [upd_ne (ne_of_none e h)]
  exact e
mutual
theorem Rp.mono {F G : Hp} (s : Sub F G) : ∀ {v : V} {d : PyData}, Rp F v d → Rp G v d
  | _, _, .non => .non
  | _, _, .bl b => .bl b
  | _, _, .int i => .int i
  | _, _, .str x => .str x
  | _, _, .lst h a => .lst (s _ _ h) (RpAll.mono s a)
  | _, _, .tup h a => .tup (s _ _ h) (RpAll.mono s a)
  | _, _, .dct h => .dct (s _ _ h)
theorem RpAll.mono {F G : Hp} (s : Sub F G) : ∀ {vs : List V} {ds : List PyData}, RpAll F vs ds → RpAll G vs ds
  | _, _, .nil => .nil
  | _, _, .cons h a => .cons (Rp.mono s h) (RpAll.mono s a)
end
mutual
theorem Rp.dp0 {F : Hp} {K : PySem.W.Frag} : ∀ {v : V} {d : PyData}, PyData.canLay0 d = true → Rp F v d → Dp K F v d
  | _, _, _, .non => .non
  | _, _, _, .bl b => .bl b
  | _, _, _, .int i => .int i
  | _, _, _, .str x => .str x
  | _, _, c, .lst h a => .lst (SqL.of h) (RpAll.dp0 c a)
  | _, _, c, .tup h a => .tup (SqT.of h) (RpAll.dp0 c a)
  | _, _, c, .dct _ => by cases c
theorem RpAll.dp0 {F : Hp} {K : PySem.W.Frag} : ∀ {vs : List V} {ds : List PyData}, PyData.canLayAll0 ds = true → RpAll F vs ds → DpAll K F vs ds
  | [], [], _, .nil => .nil
  | _ :: _, d :: ds, c, .cons h a => by
    have c' : (PyData.canLay0 d && PyData.canLayAll0 ds) = true := c
    rw [Bool.and_eq_true] at c'
    exact .cons (Rp.dp0 c'.1 h) (RpAll.dp0 c'.2 a)
end
theorem shaped_lay {d : PyData} (h : SeqAt.shaped d = true) : PyData.canLay0 d = true := SeqAt.canLay_of_shaped h
theorem Rp.dp {F : Hp} {K : PySem.W.Frag} {v : V} {d : PyData} (c : SeqAt.shaped d = true) (h : Rp F v d) : Dp K F v d := Rp.dp0 (shaped_lay c) h
theorem RpAll.dp {F : Hp} {K : PySem.W.Frag} {vs : List V} {ds : List PyData} (c : SeqAt.shaped (.list ds) = true) (h : RpAll F vs ds) : DpAll K F vs ds := RpAll.dp0 (shaped_lay c) h
section
variable {F : Hp} {v : V} {vs ws : List V} {d : PyData} {ds es : List PyData}
theorem Rp.int_inv {i : Int} (h : Rp F v (.int i)) : v = .int i := by cases h; rfl
theorem Rp.bl_inv {b : Bool} (h : Rp F v (.bool b)) : v = .bl b := by cases h; rfl
theorem Rp.str_inv {x : Str} (h : Rp F v (.str x)) : v = .str x := by cases h; rfl
theorem Rp.non_inv (h : Rp F v .none) : v = .non := by cases h; rfl
theorem Rp.lst_inv (h : Rp F v (.list ds)) : ∃ a xs, v = .ref a ∧ F a = some (.lst xs) ∧ RpAll F xs ds := by
  cases h with
  | lst h a => exact ⟨_, _, rfl, h, a⟩
theorem Rp.tup_inv (h : Rp F v (.tuple ds)) : ∃ a xs, v = .ref a ∧ F a = some (.tup xs) ∧ RpAll F xs ds := by
  cases h with
  | tup h a => exact ⟨_, _, rfl, h, a⟩
theorem RpAll.length (h : RpAll F vs ds) : vs.length = ds.length := by
  induction ds generalizing vs with
  | nil => cases h; rfl
  | cons d ds ih => cases h with | cons h a => rw [List.length_cons, List.length_cons, ih a]
theorem RpAll.get : ∀ {vs : List V} {ds : List PyData} {i : Nat} {d : PyData}, RpAll F vs ds → ds[i]? = some d → ∃ v, vs[i]? = some v ∧ Rp F v d
  | _, _, i, d, .nil, e => by simp at e
  | _, _, 0, d, .cons h a, e => ⟨_, rfl, by simp at e; subst e; exact h⟩
  | _, _, i + 1, d, .cons h a, e => by
    obtain ⟨v, h1, h2⟩ := RpAll.get (i := i) (d := d) a (by simpa using e)
    exact ⟨v, by simpa using h1, h2⟩
theorem RpAll.append : ∀ {vs ws : List V} {ds es : List PyData}, RpAll F vs ds → RpAll F ws es → RpAll F (vs ++ ws) (ds ++ es)
  | _, _, _, _, .nil, b => b
  | _, _, _, _, .cons h a, b => .cons h (RpAll.append a b)
theorem RpAll.one (h : Rp F v d) : RpAll F [v] [d] := .cons h .nil
theorem RpAll.set : ∀ {vs : List V} {ds : List PyData} (i : Nat) {v : V} {d : PyData}, RpAll F vs ds → Rp F v d → RpAll F (vs.set i v) (ds.set i d)
  | _, _, _, _, _, .nil, _ => .nil
  | _, _, 0, _, _, .cons _ a, r => .cons r a
  | _, _, i + 1, _, _, .cons h a, r => .cons h (RpAll.set i a r)
theorem RpAll.take : ∀ {vs : List V} {ds : List PyData} (n : Nat), RpAll F vs ds → RpAll F (vs.take n) (ds.take n)
  | _, _, 0, _ => .nil
  | _, _, _ + 1, .nil => .nil
  | _, _, n + 1, .cons h a => .cons h (RpAll.take n a)
theorem RpAll.drop : ∀ {vs : List V} {ds : List PyData} (n : Nat), RpAll F vs ds → RpAll F (vs.drop n) (ds.drop n)
  | _, _, 0, a => a
  | _, _, _ + 1, .nil => .nil
  | _, _, n + 1, .cons _ a => RpAll.drop n a
theorem RpAll.eraseIdx : ∀ {vs : List V} {ds : List PyData} (n : Nat), RpAll F vs ds → RpAll F (vs.eraseIdx n) (ds.eraseIdx n)
  | _, _, _, .nil => .nil
  | _, _, 0, .cons _ a => a
  | _, _, n + 1, .cons h a => .cons h (RpAll.eraseIdx n a)
theorem RpAll.reverse (h : RpAll F vs ds) : RpAll F vs.reverse ds.reverse := by
  induction ds generalizing vs with
  | nil => cases h; exact .nil
  | cons d ds ih => cases h with | cons h a => rw [List.reverse_cons, List.reverse_cons]; exact (ih a).append (.one h)
theorem RpAll.ints : ∀ {vs : List V} {ns : List Int}, RpAll F vs (ns.map .int) → vs = ns.map V.int
  | _, [], .nil => rfl
  | _, n :: ns, .cons h a => by rw [h.int_inv, a.ints]; rfl
theorem RpAll.of_ints : ∀ (ns : List Int), RpAll F (ns.map V.int) (ns.map .int)
  | [] => .nil
  | n :: ns => .cons (.int n) (RpAll.of_ints ns)
theorem RpAll.bls : ∀ {vs : List V} {bs : List Bool}, RpAll F vs (bs.map .bool) → vs = bs.map V.bl
  | _, [], .nil => rfl
  | _, n :: ns, .cons h a => by rw [h.bl_inv, a.bls]; rfl
theorem RpAll.flat : ∀ {vs : List V} {ds : List PyData}, RpAll F vs ds → (∀ d ∈ ds, ∀ es, d ≠ .list es ∧ d ≠ .tuple es ∧ ∀ kvs, d ≠ .dict kvs) → vs.all flatV = true
  | _, _, .nil, _ => rfl
  | _, _, .cons h a, n => by
    rw [List.all_cons, RpAll.flat a fun d hd => n d (List.mem_cons_of_mem _ hd), Bool.and_true]
    cases h with
    | non => rfl
    | bl b => rfl
    | int i => rfl
    | str x => rfl
    | lst h a => exact absurd rfl (n _ List.mem_cons_self _).1
    | tup h a => exact absurd rfl (n _ List.mem_cons_self _).2.1
    | dct h => exact absurd rfl ((n _ List.mem_cons_self []).2.2 _)
end

/-! ### worlds: F what stands for good, H all that is tracked; S what a pool's draws may change -/
structure Grow (S : List Addr) (F H F' H' : Hp) : Prop where
  ff : Sub F F'
  fh : Sub F' H'
  hh : ∀ a o, a ∉ S → H a = some o → H' a = some o
  th : ∀ a, H a ≠ none → H' a ≠ none
  nw : ∀ a, H a ≠ none → F a = none → F' a = none
section
variable {S : List Addr} {F H F' H' F'' H'' : Hp} {p : Addr} {o : HO}
theorem Grow.refl (s : Sub F H) : Grow S F H F H := ⟨Sub.refl F, s, fun _ _ _ h => h, fun _ h => h, fun _ _ h => h⟩
theorem Grow.trans (a : Grow S F H F' H') (b : Grow S F' H' F'' H'') : Grow S F H F'' H'' :=
  ⟨a.ff.trans b.ff, b.fh, fun x o n h => b.hh x o n (a.hh x o n h), fun x h => b.th x (a.th x h), fun x h n => b.nw x (a.th x h) (a.nw x h n)⟩
theorem Grow.weak (a : Grow [] F H F' H') : Grow S F H F' H' := ⟨a.ff, a.fh, fun x o _ h => a.hh x o (by simp) h, a.th, a.nw⟩
theorem Grow.sub (a : Grow [] F H F' H') : Sub H H' := fun x o h => a.hh x o (by simp) h
theorem Grow.fresh (a : Grow S F H F' H') (h : H' p = none) : H p = none := by
  cases q : H p with
  | none => rfl
  | some u => exact absurd h (a.th p (by rw [q]; exact fun z => nomatch z))
theorem Sub.none (s : Sub F H) (h : H p = none) : F p = none := by
  cases q : F p with
  | none => rfl
  | some u => rw [s p u q] at h; cases h
theorem upd_th {a : Addr} (h : H a ≠ none) : upd H p o a ≠ none := by
  by_cases e : a = p
  · subst e; rw [upd_same]; exact fun z => nomatch z
  · rw [upd_ne e]; exact h
theorem upd_sub (s : Sub F H) : Sub (upd F p o) (upd H p o) := fun a u e => by
  by_cases z : a = p
  · subst z; rw [upd_same] at e ⊢; exact e
  · rw [upd_ne z] at e ⊢; exact s a u e
/-- a new object that stands for good -/
theorem Grow.new (s : Sub F H) (h : H p = none) : Grow S F H (upd F p o) (upd H p o) :=
  ⟨Sub.new (s.none h), upd_sub s, fun a u _ e => Sub.new h a u e, fun a e => upd_th e, fun a e n => by
    by_cases z : a = p
    · subst z; exact absurd h e
    · rw [upd_ne z]; exact n⟩
/-- a new object that may change -/
theorem Grow.newM (s : Sub F H) (h : H p = none) : Grow S F H F (upd H p o) :=
  ⟨Sub.refl F, s.trans (Sub.new h), fun a u _ e => Sub.new h a u e, fun a e => upd_th e, fun _ _ n => n⟩
/-- a changing object stands for good from now on -/
theorem Grow.freeze (g : Grow S F H F' H') (h : H p = none) (h' : H' p = some o) (hf : F' p = none) : Grow S F H (upd F' p o) H' :=
  ⟨g.ff.trans (Sub.new hf), fun a u e => by
    by_cases z : a = p
    · subst z; rw [upd_same] at e; cases e; exact h'
    · rw [upd_ne z] at e; exact g.fh a u e, g.hh, g.th, fun a e n => by
    by_cases z : a = p
    · subst z; exact absurd h e
    · rw [upd_ne z]; exact g.nw a e n⟩
/-- an own object is changed -/
theorem Grow.mut (g : Grow S F H F' H') (h : H p = none) (hf : F' p = none) : Grow S F H F' (upd H' p o) :=
  ⟨g.ff, fun a u e => by
    have z : a ≠ p := fun z => by subst z; rw [hf] at e; cases e
    rw [upd_ne z]; exact g.fh a u e, fun a u n e => by
    have z : a ≠ p := fun z => by subst z; rw [h] at e; cases e
    rw [upd_ne z]; exact g.hh a u n e, fun a e => upd_th (g.th a e), g.nw⟩
theorem Grow.chain {B : Hp} {F0 F1 H1 : Hp} (a : Grow S F0 B F1 H1) (b : Grow S F1 B F H) : Grow S F0 B F H :=
  ⟨a.ff.trans b.ff, b.fh, b.hh, b.th, fun x h n => b.nw x h (a.nw x h n)⟩
theorem Grow.start (a : Grow S F H F' H') : Grow S F' H F' H' := ⟨Sub.refl _, a.fh, a.hh, a.th, fun _ _ n => n⟩
end

/-- a pool: the addresses that its draws change, the list itself, what is true of it -/
structure Pc where
  S : List Addr
  p : Addr
  PI : Hp → Prop
  loc : ∀ H H' : Hp, (∀ a ∈ S, H' a = H a) → PI H → PI H'
def pc0 : Pc := ⟨[], 0, fun _ => True, fun _ _ _ _ => trivial⟩
structure Wd (C : Pc) (F H : Hp) : Prop where
  sub : Sub F H
  pi : C.PI H
  sF : ∀ a ∈ C.S, F a = none
  sH : ∀ a ∈ C.S, H a ≠ none
section
variable {C : Pc} {B F H F' H' : Hp} {p : Addr} {o : HO}
theorem Wd.grow (w : Wd C F H) (g : Grow [] F H F' H') : Wd C F' H' :=
  ⟨g.fh, C.loc H H' (fun a ha => by
    cases q : H a with
    | none => exact absurd q (w.sH a ha)
    | some u => exact g.sub a u q) w.pi, fun a ha => g.nw a (w.sH a ha) (w.sF a ha), fun a ha => g.th a (w.sH a ha)⟩
theorem wd0 (s : Sub F H) : Wd pc0 F H := ⟨s, trivial, fun a h => (List.not_mem_nil h).elim, fun a h => (List.not_mem_nil h).elim⟩
theorem Wd.mut (w : Wd C F H) (hp : p ∉ C.S) (hf : F p = none) : Wd C F (upd H p o) :=
  ⟨fun a u e => by
    have z : a ≠ p := fun z => by subst z; rw [hf] at e; cases e
    rw [upd_ne z]; exact w.sub a u e, C.loc H _ (fun a ha => upd_ne fun z => hp (z ▸ ha)) w.pi, w.sF, fun a ha => upd_th (w.sH a ha)⟩
theorem Wd.freeze (w : Wd C F H) (hp : p ∉ C.S) (h : H p = some o) (hf : F p = none) : Wd C (upd F p o) H :=
  ⟨fun a u e => by
    by_cases z : a = p
    · subst z; rw [upd_same] at e; cases e; exact h
    · rw [upd_ne z] at e; exact w.sub a u e, w.pi, fun a ha => by
    have z : a ≠ p := fun z => hp (z ▸ ha)
    rw [upd_ne z]; exact w.sF a ha, w.sH⟩
end

/-! ### what the slots hold -/
/-- a list that nobody changes: frozen, or an object of the module -/
def FzL (K : PySem.W.Frag) (S : List Addr) (H : Hp) (a : Addr) (xs : List V) : Prop := (∃ o, H a = some (.frz o (.lst xs)) ∧ a ∉ S) ∨
  ∃ (o : Obj) (its : Array Value) (n : Nat), K.lookup a = some o ∧ o.cls = .type "list" ∧ o.dict = none ∧ o.data = .seq its n ∧ its.size ≤ sizeLine ∧ Vals xs its.toList
inductive Sl where
  | no | dat (d : PyData) | own (ds : List PyData) | dct (kvs : List (Int × Int)) | pool | fz (K : PySem.W.Frag) (a : Addr) (xs : List V) | ref (a : Addr)
/-- a dict of numbers in the heap -/
abbrev kD (kvs : List (Int × Int)) : List (Key × V) := kvs.map fun p => (Sum.inl p.1, V.int p.2)
def SlOk (C : Pc) (B F H : Hp) (x : Option (Option V)) : Sl → Prop
  | .no => True
  | .dat d => ∃ v, x = some (some v) ∧ Rp F v d
  | .own ds => ∃ p vs, x = some (some (.ref p)) ∧ H p = some (.lst vs) ∧ F p = none ∧ B p = none ∧ p ∉ C.S ∧ RpAll F vs ds
  | .dct kvs => ∃ p, x = some (some (.ref p)) ∧ H p = some (.dK (kD kvs)) ∧ F p = none ∧ B p = none ∧ p ∉ C.S
  | .pool => x = some (some (.ref C.p))
  | .fz K a xs => x = some (some (.ref a)) ∧ FzL K C.S H a xs
  | .ref a => x = some (some (.ref a))
structure Gm (C : Pc) (B F H : Hp) (σ : L2.St) (Γ : List Sl) : Prop where
  len : Γ.length = σ.length
  ok : ∀ (i : Nat) (s : Sl), Γ[i]? = some s → SlOk C B F H σ[i]? s
  inj : ∀ (i j : Nat) (ds es : List PyData) (p : Addr), Γ[i]? = some (.own ds) → Γ[j]? = some (.own es) → σ[i]? = some (some (.ref p)) → σ[j]? = some (some (.ref p)) → i = j
section
variable {C : Pc} {B F H F' H' : Hp} {σ : L2.St} {Γ : List Sl} {i : Nat} {v : V} {d : PyData} {ds : List PyData} {p : Addr}
theorem SlOk.grow {x : Option (Option V)} {s : Sl} (k : SlOk C B F H x s) (g : Grow C.S F H F' H') : SlOk C B F' H' x s := by
  cases s with
  | no => trivial
  | dat d => obtain ⟨v, e, r⟩ := k; exact ⟨v, e, r.mono g.ff⟩
  | own ds =>
    obtain ⟨p, vs, e, h, f, b, n, r⟩ := k
    exact ⟨p, vs, e, g.hh p _ n h, g.nw p (by rw [h]; exact fun z => nomatch z) f, b, n, r.mono g.ff⟩
  | dct kvs =>
    obtain ⟨p, e, h, f, b, n⟩ := k
    exact ⟨p, e, g.hh p _ n h, g.nw p (by rw [h]; exact fun z => nomatch z) f, b, n⟩
  | pool => exact k
  | fz K a xs => exact ⟨k.1, k.2.imp (fun ⟨o, h, n⟩ => ⟨o, g.hh a _ n h, n⟩) id⟩
  | ref a => exact k
theorem Gm.grow (E : Gm C B F H σ Γ) (g : Grow C.S F H F' H') : Gm C B F' H' σ Γ := ⟨E.len, fun i s e => (E.ok i s e).grow g, E.inj⟩
theorem Gm.set (E : Gm C B F H σ Γ) {s : Sl} (k : SlOk C B F H (some (some v)) s)
    (n : ∀ ds, s = .own ds → ∀ (j : Nat) es p, v = .ref p → Γ[j]? = some (.own es) → σ[j]? ≠ some (some (.ref p))) : Gm C B F H (σ.set i (some v)) (Γ.set i s) := by
  refine ⟨by rw [List.length_set, List.length_set, E.len], fun j t e => ?_, fun j m ds es p e1 e2 e3 e4 => ?_⟩
  · rw [List.getElem?_set] at e ⊢
    by_cases hj : i = j
    · subst hj
      rw [if_pos rfl] at e ⊢
      by_cases hl : i < Γ.length
      · rw [if_pos hl] at e
        rw [if_pos (E.len ▸ hl)]
        cases e
        exact k
      · rw [if_neg hl] at e; cases e
    · rw [if_neg hj] at e ⊢
      exact E.ok j t e
  · rw [List.getElem?_set] at e1 e2 e3 e4
    by_cases hj : i = j
    · by_cases hk : i = m
      · exact hj.symm.trans hk
      · subst hj
        rw [if_pos rfl] at e1 e3
        rw [if_neg hk] at e2 e4
        by_cases hl : i < Γ.length
        · rw [if_pos hl] at e1
          rw [if_pos (E.len ▸ hl)] at e3
          cases e1
          cases e3
          exact absurd e4 (n _ rfl m es p rfl e2)
        · rw [if_neg hl] at e1; cases e1
    · by_cases hk : i = m
      · subst hk
        rw [if_pos rfl] at e2 e4
        rw [if_neg hj] at e1 e3
        by_cases hl : i < Γ.length
        · rw [if_pos hl] at e2
          rw [if_pos (E.len ▸ hl)] at e4
          cases e2
          cases e4
          exact absurd e3 (n _ rfl j ds p rfl e1)
        · rw [if_neg hl] at e2; cases e2
      · rw [if_neg hj] at e1 e3
        rw [if_neg hk] at e2 e4
        exact E.inj j m ds es p e1 e2 e3 e4
theorem Gm.dat (E : Gm C B F H σ Γ) (r : Rp F v d) : Gm C B F H (σ.set i (some v)) (Γ.set i (.dat d)) := E.set ⟨v, rfl, r⟩ fun _ z => nomatch z
/-- a slot forgotten -/
theorem Gm.forget (E : Gm C B F H σ Γ) (x : Option V) : Gm C B F H (σ.set i x) (Γ.set i .no) := by
  refine ⟨by rw [List.length_set, List.length_set, E.len], fun j t e => ?_, fun j k ds es p e1 e2 e3 e4 => ?_⟩
  · rw [List.getElem?_set] at e ⊢
    by_cases hj : i = j
    · subst hj
      rw [if_pos rfl] at e
      by_cases hl : i < Γ.length
      · rw [if_pos hl] at e; cases e; trivial
      · rw [if_neg hl] at e; cases e
    · rw [if_neg hj] at e ⊢
      exact E.ok j t e
  · rw [List.getElem?_set] at e1 e2 e3 e4
    by_cases hj : i = j
    · subst hj
      rw [if_pos rfl] at e1
      by_cases hl : i < Γ.length
      · rw [if_pos hl] at e1; cases e1
      · rw [if_neg hl] at e1; cases e1
    · by_cases hk : i = k
      · subst hk
        rw [if_pos rfl] at e2
        by_cases hl : i < Γ.length
        · rw [if_pos hl] at e2; cases e2
        · rw [if_neg hl] at e2; cases e2
      · rw [if_neg hj] at e1 e3
        rw [if_neg hk] at e2 e4
        exact E.inj j k ds es p e1 e2 e3 e4
def wipeG (Γ : List Sl) : List Nat → List Sl
  | [] => Γ
  | v :: vs => (wipeG Γ vs).set v .no
theorem Gm.wipe (E : Gm C B F H σ Γ) : ∀ vs : List Nat, Gm C B F H (L2.wipe σ vs) (wipeG Γ vs)
  | [] => E
  | _ :: vs => (Gm.wipe E vs).forget none
theorem Gm.get (E : Gm C B F H σ Γ) (h : Γ[i]? = some (.dat d)) : ∃ v, σ[i]? = some (some v) ∧ Rp F v d := E.ok i _ h
/-- the own list of slot i is changed -/
theorem Gm.mut (E : Gm C B F H σ Γ) {vs : List V} {es : List PyData} (h : Γ[i]? = some (.own ds)) (hp : σ[i]? = some (some (.ref p))) (r : RpAll F vs es) : Gm C B F (upd H p (.lst vs)) σ (Γ.set i (.own es)) := by
  obtain ⟨p', vs', e', h', f', b', n', r'⟩ := E.ok i _ h
  have ep : p' = p := by rw [hp] at e'; cases e'; rfl
  subst ep
  refine ⟨by rw [List.length_set, E.len], fun j t e => ?_, fun j k ds es p e1 e2 e3 e4 => ?_⟩
  · rw [List.getElem?_set] at e
    by_cases hj : i = j
    · subst hj
      rw [if_pos rfl] at e
      by_cases hl : i < Γ.length
      · rw [if_pos hl] at e
        cases e
        exact ⟨p', vs, hp, upd_same, f', b', n', r⟩
      · rw [if_neg hl] at e; cases e
    · rw [if_neg hj] at e
      have k := E.ok j t e
      cases t with
      | no => trivial
      | dat d => exact k
      | own fs =>
        obtain ⟨q, us, e1, h1, f1, b1, n1, r1⟩ := k
        have nq : q ≠ p' := fun z => hj (E.inj i j ds fs p' h e hp (z ▸ e1))
        exact ⟨q, us, e1, (upd_ne nq).trans h1, f1, b1, n1, r1⟩
      | dct kvs =>
        obtain ⟨q, e1, h1, f1, b1, n1⟩ := k
        have nq : q ≠ p' := fun z => by
          subst z
          have z2 := h1.symm.trans h'
          cases z2
        exact ⟨q, e1, (upd_ne nq).trans h1, f1, b1, n1⟩
      | pool => exact k
      | fz K a xs =>
        refine ⟨k.1, k.2.imp (fun ⟨o, h, n⟩ => ⟨o, ?_, n⟩) id⟩
        have na : a ≠ p' := fun z => by
          subst z
          have z2 := h.symm.trans h'
          cases z2
        exact (upd_ne na).trans h
      | ref a => exact k
  · rw [List.getElem?_set] at e1 e2
    have back : ∀ (m : Nat) (xs : List PyData), (if i = m then if i < Γ.length then some (Sl.own es) else none else Γ[m]?) = some (.own xs) → ∃ ys, Γ[m]? = some (.own ys) := fun m xs q => by
      by_cases hm : i = m
      · subst hm; exact ⟨_, h⟩
      · rw [if_neg hm] at q; exact ⟨_, q⟩
    rename_i ds0
    have b1 : ∃ ys, Γ[j]? = some (.own ys) := by
      by_cases hm : i = j
      · subst hm; exact ⟨_, h⟩
      · rw [if_neg hm] at e1; exact ⟨_, e1⟩
    have b2 : ∃ ys, Γ[k]? = some (.own ys) := by
      by_cases hm : i = k
      · subst hm; exact ⟨_, h⟩
      · rw [if_neg hm] at e2; exact ⟨_, e2⟩
    obtain ⟨ys, y1⟩ := b1
    obtain ⟨zs, y2⟩ := b2
    exact E.inj j k ys zs p y1 y2 e3 e4
end
end Eh

namespace Eh
open PySem PySem.Spec PyProof.Rows L2
/-! ### a tuple once, and no times -/
theorem tuple_mul1 (l : Addr) (items : Array Value) (n : Nat) (dd : Option Addr) (sl : Array (Option Value)) (u : Tok) :
    Meets (Builtin.«tuple.__mul__» ⟨[.ref l, .int 1 u], []⟩) (fun _ R s => s.heap.get? l = some { cls := .type "tuple", dict := dd, data := .seq items n, slots := sl } ∧ R (.ok (.ret (Value.ref l))) s) :=
  .of_wp fun prog w A R s h => by
    obtain ⟨hp, g, d, tk, os⟩ := s
    obtain ⟨hl, h⟩ := h
    have f1 := AutoSeq1.idx_int
    wp_walk using wpAny_loadPart' hl
    repeat (first
      | (refine wpAny_ite_false (by first | decide | rfl) ?_; wp_walk using wpAny_loadPart' hl)
      | (refine wpAny_ite_true (decide_eq_true (by first | decide | rfl | simp)) ?_; wp_walk using wpAny_loadPart' hl))
    exact ⟨_, rfl, h⟩
theorem tuple_mul0 (l : Addr) (items : Array Value) (n : Nat) (dd : Option Addr) (sl : Array (Option Value)) (u : Tok) (c1 : (items.isEmpty || (0 : Int) == 1) = false) :
    Meets (Builtin.«tuple.__mul__» ⟨[.ref l, .int 0 u], []⟩) (fun _ R s => s.heap.get? l = some { cls := .type "tuple", dict := dd, data := .seq items n, slots := sl } ∧
      R (.ok (.ret (Value.ref s.heap.objs.size))) { s with heap := s.heap.push { cls := Value.type "tuple", data := Data.seq #[] }, toks := s.toks }) :=
  .of_wp fun prog w A R s h => by
    obtain ⟨hp, g, d, tk, os⟩ := s
    obtain ⟨hl, h⟩ := h
    have f1 := AutoSeq1.idx_int
    wp_walk using wpAny_loadPart' hl
    repeat (first
      | (refine wpAny_ite_false (by first | decide | rfl) ?_; wp_walk using wpAny_loadPart' hl)
      | (refine wpAny_ite_false (decide_eq_false (by rw [c1]; exact Bool.false_ne_true)) ?_; wp_walk using wpAny_loadPart' hl)
      | (refine wpAny_ite_true (decide_eq_true (by first | decide | rfl | simp)) ?_; wp_walk using wpAny_loadPart' hl))
    exact ⟨_, rfl, h⟩
def rRep01 (K : PySem.W.Frag) : R2 := fun x y H Q => ∃ l k xs, x = .ref l ∧ y = .int k ∧ SqT K H l xs ∧ xs ≠ [] ∧ (k = 1 ∧ Q (.ref l) H ∨ k = 0 ∧ ∀ p, H p = none → Q (.ref p) (upd H p (.tup [])))
theorem op_rep01 {X : Cx} : OpR X (binaryOp .Mult) (rRep01 X.K) := by
  intro pins s σ H x y v u Q I rx ry h
  obtain ⟨l, k, xs, rfl, rfl, hT, hne, h⟩ := h
  cases rx
  obtain ⟨t, rfl⟩ := ry
  obtain ⟨its, r, ⟨⟨cls, dd, data, sl⟩, ho, hc, n, hd⟩, hs⟩ := I.tuple hT
  simp only at hc hd
  subst hc hd
  have hle : its.length = xs.length := r.length.symm
  have hn : its ≠ [] := fun e => hne (by
    rw [e] at hle
    exact List.eq_nil_of_length_eq_zero hle.symm)
  have hi : its.toArray.isEmpty = false := by
    cases its with
    | nil => exact absurd rfl hn
    | cons a b => rfl
  rcases h with ⟨rfl, q⟩ | ⟨rfl, q⟩
  · exact wpAny_binaryOp_repeat_ref (T := "tuple") (U := "int") (by decide) ⟨_, ho, rfl⟩ (fun s' => typeIs_int s' 1 t) noFill_tuple_mul F.fills_int_mul F.slot_int_rmul repeat_tuple F.slot_int_index.lookup
      (call_meets F.slot_int_rmul (typeIs_int s 1 t) F.entry_int_rmul (F.args_int_rmul_2 _ _) (int_rmul_tuple 1 t l its.toArray n dd sl)
        ⟨ho, rfl, ⟨_, ho, rfl⟩, call_meets F.slot_tuple_mul ⟨_, ho, rfl⟩ F.entry_tuple_mul (F.args_tuple_mul_2 _ _) (tuple_mul1 l its.toArray n dd sl t) ⟨ho, ⟨.ref l, H, I, rfl, q⟩⟩⟩)
  · refine wpAny_binaryOp_repeat_ref (T := "tuple") (U := "int") (by decide) ⟨_, ho, rfl⟩ (fun s' => typeIs_int s' 0 t) noFill_tuple_mul F.fills_int_mul F.slot_int_rmul repeat_tuple F.slot_int_index.lookup
      (call_meets F.slot_int_rmul (typeIs_int s 0 t) F.entry_int_rmul (F.args_int_rmul_2 _ _) (int_rmul_tuple 0 t l its.toArray n dd sl)
        ⟨ho, rfl, ⟨_, ho, rfl⟩, call_meets F.slot_tuple_mul ⟨_, ho, rfl⟩ F.entry_tuple_mul (F.args_tuple_mul_2 _ _) (tuple_mul0 l its.toArray n dd sl t (by rw [hi]; rfl)) ⟨ho, ?_⟩⟩)
    refine ⟨.ref s.heap.objs.size, _, I.laid (t' := s.toks) (o := .tup []) (fun b ob q => Heap.get?_push_of_some _ q) (Nat.le_refl _) ?_, rfl, q _ (I.hok.fresh (Nat.le_refl _))⟩
    exact ⟨by rw [sizeLine_eq]; exact Nat.zero_le _, [], .nil, IsTup.new _ _⟩
end Eh

namespace Eh
open PySem PySem.Spec PyProof.Rows L2

/-! ### what an expression gives: data -/
def EvP (te : TE) (Γ : List Sl) (P : Hp → Hp → V → Hp → Hp → Prop) : Prop :=
  ∀ (C : Pc) (B F H : Hp) (σ : L2.St), Wd C F H → Gm C B F H σ Γ → ∀ Q : VK, (∀ v F' H', Grow [] F H F' H' → P F H v F' H' → Q v H') → te σ H Q
def EvD (te : TE) (Γ : List Sl) (d : PyData) : Prop := EvP te Γ fun _ _ v F' _ => Rp F' v d
/-- a new list -/
def EvN (te : TE) (Γ : List Sl) (ds : List PyData) : Prop :=
  EvP te Γ fun _ H v F' H' => ∃ p vs, v = .ref p ∧ H p = none ∧ F' p = none ∧ H' p = some (.lst vs) ∧ RpAll F' vs ds
/-- a list to be read; a list or tuple -/
def RdL (te : TE) (Γ : List Sl) (ds : List PyData) : Prop :=
  EvP te Γ fun _ _ v F' H' => ∃ p vs, v = .ref p ∧ H' p = some (.lst vs) ∧ RpAll F' vs ds
def RdS (te : TE) (Γ : List Sl) (ds : List PyData) : Prop :=
  EvP te Γ fun _ _ v F' H' => ∃ p vs, v = .ref p ∧ (H' p = some (.lst vs) ∨ H' p = some (.tup vs)) ∧ RpAll F' vs ds
def EvT (tt : TT) (Γ : List Sl) (b : Bool) : Prop :=
  ∀ (C : Pc) (B F H : Hp) (σ : L2.St), Wd C F H → Gm C B F H σ Γ → ∀ Q : Bool → Hp → Prop, (∀ F' H', Grow [] F H F' H' → Q b H') → tt σ H Q
def EvA (ta : TA) (Γ : List Sl) (ds : List PyData) : Prop :=
  ∀ (C : Pc) (B F H : Hp) (σ : L2.St), Wd C F H → Gm C B F H σ Γ → ∀ Q : List V → Hp → Prop, (∀ vs F' H', Grow [] F H F' H' → RpAll F' vs ds → Q vs H') → ta σ H Q
section
variable {te ta tb : TE} {Γ : List Sl} {d x y : PyData} {ds es : List PyData}
theorem EvP.imp {P P' : Hp → Hp → V → Hp → Hp → Prop} (h : EvP te Γ P) (i : ∀ C F H v F' H', Wd C F H → Grow [] F H F' H' → P F H v F' H' → P' F H v F' H') : EvP te Γ P' :=
  fun C B F H σ w g Q q => h C B F H σ w g Q fun v F' H' gr p => q v F' H' gr (i C F H v F' H' w gr p)
theorem EvD.is (h : EvD te Γ x) (e : x = y) : EvD te Γ y := e ▸ h
theorem EvN.is (h : EvN te Γ ds) (e : ds = es) : EvN te Γ es := e ▸ h
theorem EvT.is {tt : TT} {a b : Bool} (h : EvT tt Γ a) (e : a = b) : EvT tt Γ b := e ▸ h
/-- a new list stands for good -/
theorem EvN.fz (h : EvN te Γ ds) : EvD te Γ (.list ds) := fun C B F H σ w g Q q =>
  h C B F H σ w g Q fun v F' H' gr ⟨p, vs, e, n, f, l, r⟩ => by
    subst e
    exact q _ (upd F' p (.lst vs)) H' (gr.freeze n l f) (.lst upd_same (r.mono (Sub.new f)))
theorem EvN.rl (h : EvN te Γ ds) : RdL te Γ ds := h.imp fun _ _ _ _ _ _ _ _ ⟨p, vs, e, _, _, l, r⟩ => ⟨p, vs, e, l, r⟩
theorem RdL.s (h : RdL te Γ ds) : RdS te Γ ds := h.imp fun _ _ _ _ _ _ _ _ ⟨p, vs, e, l, r⟩ => ⟨p, vs, e, .inl l, r⟩
theorem EvD.rl (h : EvD te Γ (.list ds)) : RdL te Γ ds := h.imp fun _ _ _ _ _ _ _ gr r => by
  obtain ⟨a, xs, e, f, ra⟩ := Rp.lst_inv r
  exact ⟨a, xs, e, gr.fh _ _ f, ra⟩
theorem EvD.rt (h : EvD te Γ (.tuple ds)) : RdS te Γ ds := h.imp fun _ _ _ _ _ _ _ gr r => by
  obtain ⟨a, xs, e, f, ra⟩ := Rp.tup_inv r
  exact ⟨a, xs, e, .inr (gr.fh _ _ f), ra⟩

/-! ### names, constants -/
theorem ev_var {i : Nat} (h : Γ[i]? = some (.dat d)) : EvD (tVar i) Γ d := fun C B F H σ w g Q q => by
  obtain ⟨v, e, r⟩ := g.get h
  exact ⟨v, e, q v F H (.refl w.sub) r⟩
theorem rl_own {i : Nat} (h : Γ[i]? = some (.own ds)) : RdL (tVar i) Γ ds := fun C B F H σ w g Q q => by
  obtain ⟨p, vs, e, l, f, b, n, r⟩ := g.ok i _ h
  exact ⟨_, e, q _ F H (.refl w.sub) ⟨p, vs, rfl, l, r⟩⟩
theorem ev_int {i : Int} : EvD (tC (.int i)) Γ (.int i) := fun C B F H σ w g Q q => q _ F H (.refl w.sub) (.int i)
theorem ev_bl {b : Bool} : EvD (tC (.bl b)) Γ (.bool b) := fun C B F H σ w g Q q => q _ F H (.refl w.sub) (.bl b)
theorem ev_non : EvD (tC .non) Γ .none := fun C B F H σ w g Q q => q _ F H (.refl w.sub) .non
theorem ev_str {s : Str} : EvD (tC (.str s)) Γ (.str s) := fun C B F H σ w g Q q => q _ F H (.refl w.sub) (.str s)

/-! ### operators -/
def RV (r : R2) (x y d : PyData) : Prop :=
  ∀ F H v u, Sub F H → Rp F v x → Rp F u y → ∀ Q : VK, (∀ z F' H', Grow [] F H F' H' → Rp F' z d → Q z H') → r v u H Q
theorem ev_op {r : R2} (ha : EvD ta Γ x) (hb : EvD tb Γ y) (hr : RV r x y d) : EvD (tOp r ta tb) Γ d := fun C B F H σ w g Q q =>
  ha C B F H σ w g _ fun v F1 H1 g1 r1 => hb C B F1 H1 σ (w.grow g1) (g.grow g1.weak) _ fun u F2 H2 g2 r2 =>
    hr F2 H2 v u g2.fh (r1.mono g2.ff) r2 Q fun z F3 H3 g3 r3 => q z F3 H3 ((g1.trans g2).trans g3) r3
/-- two lists, each read; a list and data; data and a list -/
theorem ev_opLL {r : R2} {P : Hp → Hp → V → Hp → Hp → Prop} (ha : RdL ta Γ ds) (hb : RdL tb Γ es)
    (hr : ∀ F0 H0 F H p q vs us, Grow [] F0 H0 F H → H p = some (.lst vs) → H q = some (.lst us) → RpAll F vs ds → RpAll F us es → ∀ Q : VK, (∀ z F' H', Grow [] F H F' H' → P F0 H0 z F' H' → Q z H') → r (.ref p) (.ref q) H Q) :
    EvP (tOp r ta tb) Γ P := fun C B F H σ w g Q q =>
  ha C B F H σ w g _ fun v F1 H1 g1 ⟨p, vs, e1, h1, r1⟩ => hb C B F1 H1 σ (w.grow g1) (g.grow g1.weak) _ fun u F2 H2 g2 ⟨p2, us, e2, h2, r2⟩ => by
    subst e1 e2
    exact hr F H F2 H2 p p2 vs us (g1.trans g2) (g2.sub _ _ h1) h2 (r1.mono g2.ff) r2 Q fun z F3 H3 g3 r3 => q z F3 H3 ((g1.trans g2).trans g3) r3
theorem ev_opSD {r : R2} {P : Hp → Hp → V → Hp → Hp → Prop} (ha : RdS ta Γ ds) (hb : EvD tb Γ y)
    (hr : ∀ F0 H0 F H p vs u, Grow [] F0 H0 F H → (H p = some (.lst vs) ∨ H p = some (.tup vs)) → RpAll F vs ds → Rp F u y → ∀ Q : VK, (∀ z F' H', Grow [] F H F' H' → P F0 H0 z F' H' → Q z H') → r (.ref p) u H Q) :
    EvP (tOp r ta tb) Γ P := fun C B F H σ w g Q q =>
  ha C B F H σ w g _ fun v F1 H1 g1 ⟨p, vs, e1, h1, r1⟩ => hb C B F1 H1 σ (w.grow g1) (g.grow g1.weak) _ fun u F2 H2 g2 r2 => by
    subst e1
    exact hr F H F2 H2 p vs u (g1.trans g2) (h1.imp (g2.sub _ _) (g2.sub _ _)) (r1.mono g2.ff) r2 Q fun z F3 H3 g3 r3 => q z F3 H3 ((g1.trans g2).trans g3) r3
theorem ev_opDS {r : R2} {P : Hp → Hp → V → Hp → Hp → Prop} (ha : EvD ta Γ x) (hb : RdS tb Γ ds)
    (hr : ∀ F0 H0 F H v p us, Grow [] F0 H0 F H → Rp F v x → (H p = some (.lst us) ∨ H p = some (.tup us)) → RpAll F us ds → ∀ Q : VK, (∀ z F' H', Grow [] F H F' H' → P F0 H0 z F' H' → Q z H') → r v (.ref p) H Q) :
    EvP (tOp r ta tb) Γ P := fun C B F H σ w g Q q =>
  ha C B F H σ w g _ fun v F1 H1 g1 r1 => hb C B F1 H1 σ (w.grow g1) (g.grow g1.weak) _ fun u F2 H2 g2 ⟨p, us, e2, h2, r2⟩ => by
    subst e2
    exact hr F H F2 H2 v p us (g1.trans g2) (r1.mono g2.ff) h2 r2 Q fun z F3 H3 g3 r3 => q z F3 H3 ((g1.trans g2).trans g3) r3
end

theorem size_ok {n : Nat} (h : n ≤ 100000) : n ≤ sizeLine := Nat.le_trans h (by decide)
theorem size_lt {n : Nat} (h : n < 100000) : n < sizeLine := Nat.lt_of_lt_of_le h (by decide)

/-! ### + -/
def rAddA (K : PySem.W.Frag) : R2 := fun x y H Q => rI0 (fun i j => .int (i + j)) x y H Q ∨ rCat x y H Q ∨ rCatA K x y H Q
def rSubI : R2 := rI0 fun i j => .int (i - j)
def rMulA (K : PySem.W.Frag) : R2 := fun x y H Q => rI CMul (fun i j => .int (i * j)) x y H Q ∨ rRep x y H Q ∨ rRepT K x y H Q ∨ rRep01 K x y H Q
def rModI : R2 := rI (fun _ j => 0 < j) fun i j => .int (i % j)
def rDivI : R2 := rI CDiv fun i j => .int (i / j)
def rPowI : R2 := rI CPow fun i j => .int (i ^ j.toNat)
def rShlI : R2 := rI CPow fun i j => .int (i * 2 ^ j.toNat)
def rShrI : R2 := rI (fun _ j => 0 ≤ j) fun i j => .int (i / 2 ^ j.toNat)
def rAndI : R2 := rI0 fun i j => .int (Builtin.bitAnd i j)
def rOrI : R2 := rI0 fun i j => .int (Builtin.bitOr i j)
def rXorI : R2 := rI0 fun i j => .int (Builtin.bitXor i j)
def rLtI : R2 := rI0 fun i j => .bl (decide (i < j))
def rLeI : R2 := rI0 fun i j => .bl (decide (i ≤ j))
def rGtI : R2 := rI0 fun i j => .bl (decide (j < i))
def rGeI : R2 := rI0 fun i j => .bl (decide (j ≤ i))
/-- ==: None, bools, ints, texts by value; data of any depth -/
def rEqA (K : PySem.W.Frag) : R2 := fun x y H Q => rEq x y H Q ∨ rEqD K x y H Q
def rNeA (K : PySem.W.Frag) : R2 := fun x y H Q => rNe x y H Q ∨ rNeD K x y H Q
def rIsN : R2 := fun x y H Q => y = .non ∧ Q (.bl (decide (x = .non))) H
def rNotN : R2 := fun x y H Q => y = .non ∧ Q (.bl (!decide (x = .non))) H
def rNegI : V → Hp → VK → Prop := rU fun i => .int (-i)
section
variable {X : Cx}
theorem oAdd : OpR X (binaryOp .Add) (rAddA X.K) := op_add.or (op_cat.or op_catA)
theorem oSub : OpR X (binaryOp .Sub) rSubI := op_sub
theorem oMul : OpR X (binaryOp .Mult) (rMulA X.K) := op_mul.or (op_rep.or (op_repT.or op_rep01))
theorem oMod : OpR X (binaryOp .Mod) rModI := op_mod
theorem oDiv : OpR X (binaryOp .FloorDiv) rDivI := op_fdiv
theorem oPow : OpR X (binaryOp .Pow) rPowI := op_pow
theorem oShl : OpR X (binaryOp .LShift) rShlI := op_shl
theorem oShr : OpR X (binaryOp .RShift) rShrI := op_shr
theorem oAnd : OpR X (binaryOp .BitAnd) rAndI := op_and
theorem oOr : OpR X (binaryOp .BitOr) rOrI := op_or
theorem oXor : OpR X (binaryOp .BitXor) rXorI := op_xor
theorem oLt : OpR X (compareOp .Lt) rLtI := op_lt
theorem oLe : OpR X (compareOp .LtE) rLeI := op_le
theorem oGt : OpR X (compareOp .Gt) rGtI := op_gt
theorem oGe : OpR X (compareOp .GtE) rGeI := op_ge
theorem oEq (hu : X.A.units + 64 < cLine) : OpR X (compareOp .Eq) (rEqA X.K) := op_eq.or (op_eqD hu)
theorem oNe (hu : X.A.units + 64 < cLine) : OpR X (compareOp .NotEq) (rNeA X.K) := op_ne.or (op_neD hu)
theorem oIsN : OpR X (compareOp .Is) rIsN := op_isN
theorem oNotN : OpR X (compareOp .IsNot) rNotN := op_notN
theorem uNeg : UnR X (unaryOp .USub) rNegI := un_neg
end
section
variable {te ta tb tc : TE} {Γ : List Sl} {d x y : PyData} {ds es : List PyData} {K : PySem.W.Frag}
theorem rv_I0 {g : Int → Int → V} {i j : Int} {d : PyData} (h : ∀ F, Rp F (g i j) d) : RV (rI0 g) (.int i) (.int j) d := fun F H v u s r1 r2 Q q => by
  rw [r1.int_inv, r2.int_inv]
  exact ⟨i, j, rfl, rfl, q _ F H (.refl s) (h F)⟩
theorem rv_I {c : Int → Int → Prop} {g : Int → Int → V} {i j : Int} {d : PyData} (hc : c i j) (h : ∀ F, Rp F (g i j) d) : RV (rI c g) (.int i) (.int j) d := fun F H v u s r1 r2 Q q => by
  rw [r1.int_inv, r2.int_inv]
  exact ⟨i, j, rfl, rfl, hc, q _ F H (.refl s) (h F)⟩
theorem ev_add {i j : Int} (ha : EvD ta Γ (.int i)) (hb : EvD tb Γ (.int j)) : EvD (tOp (rAddA K) ta tb) Γ (.int (i + j)) :=
  ev_op ha hb fun F H v u s r1 r2 Q q => .inl (rv_I0 (g := fun i j => .int (i + j)) (fun F => .int _) F H v u s r1 r2 Q q)
theorem ev_sub {i j : Int} (ha : EvD ta Γ (.int i)) (hb : EvD tb Γ (.int j)) : EvD (tOp rSubI ta tb) Γ (.int (i - j)) := ev_op ha hb (rv_I0 fun F => .int _)
theorem ev_mul {i j : Int} (ha : EvD ta Γ (.int i)) (hb : EvD tb Γ (.int j)) (hc : CMul i j) : EvD (tOp (rMulA K) ta tb) Γ (.int (i * j)) :=
  ev_op ha hb fun F H v u s r1 r2 Q q => .inl (rv_I (g := fun i j => .int (i * j)) hc (fun F => .int _) F H v u s r1 r2 Q q)
theorem ev_mod {i j : Int} (ha : EvD ta Γ (.int i)) (hb : EvD tb Γ (.int j)) (hc : 0 < j) : EvD (tOp rModI ta tb) Γ (.int (i % j)) := ev_op ha hb (rv_I hc fun F => .int _)
theorem ev_div {i j : Int} (ha : EvD ta Γ (.int i)) (hb : EvD tb Γ (.int j)) (hc : CDiv i j) : EvD (tOp rDivI ta tb) Γ (.int (i / j)) := ev_op ha hb (rv_I hc fun F => .int _)
theorem ev_pow {i j : Int} (ha : EvD ta Γ (.int i)) (hb : EvD tb Γ (.int j)) (hc : CPow i j) : EvD (tOp rPowI ta tb) Γ (.int (i ^ j.toNat)) := ev_op ha hb (rv_I hc fun F => .int _)
theorem ev_shl {i j : Int} (ha : EvD ta Γ (.int i)) (hb : EvD tb Γ (.int j)) (hc : CPow i j) : EvD (tOp rShlI ta tb) Γ (.int (i * 2 ^ j.toNat)) := ev_op ha hb (rv_I hc fun F => .int _)
theorem ev_shr {i j : Int} (ha : EvD ta Γ (.int i)) (hb : EvD tb Γ (.int j)) (hc : 0 ≤ j) : EvD (tOp rShrI ta tb) Γ (.int (i / 2 ^ j.toNat)) := ev_op ha hb (rv_I hc fun F => .int _)
theorem ev_band {i j : Int} (ha : EvD ta Γ (.int i)) (hb : EvD tb Γ (.int j)) : EvD (tOp rAndI ta tb) Γ (.int (Builtin.bitAnd i j)) := ev_op ha hb (rv_I0 fun F => .int _)
theorem ev_bor {i j : Int} (ha : EvD ta Γ (.int i)) (hb : EvD tb Γ (.int j)) : EvD (tOp rOrI ta tb) Γ (.int (Builtin.bitOr i j)) := ev_op ha hb (rv_I0 fun F => .int _)
theorem ev_bxor {i j : Int} (ha : EvD ta Γ (.int i)) (hb : EvD tb Γ (.int j)) : EvD (tOp rXorI ta tb) Γ (.int (Builtin.bitXor i j)) := ev_op ha hb (rv_I0 fun F => .int _)
theorem ev_lt {i j : Int} (ha : EvD ta Γ (.int i)) (hb : EvD tb Γ (.int j)) : EvD (tOp rLtI ta tb) Γ (.bool (decide (i < j))) := ev_op ha hb (rv_I0 fun F => .bl _)
theorem ev_le {i j : Int} (ha : EvD ta Γ (.int i)) (hb : EvD tb Γ (.int j)) : EvD (tOp rLeI ta tb) Γ (.bool (decide (i ≤ j))) := ev_op ha hb (rv_I0 fun F => .bl _)
theorem ev_gt {i j : Int} (ha : EvD ta Γ (.int i)) (hb : EvD tb Γ (.int j)) : EvD (tOp rGtI ta tb) Γ (.bool (decide (j < i))) := ev_op ha hb (rv_I0 fun F => .bl _)
theorem ev_ge {i j : Int} (ha : EvD ta Γ (.int i)) (hb : EvD tb Γ (.int j)) : EvD (tOp rGeI ta tb) Γ (.bool (decide (j ≤ i))) := ev_op ha hb (rv_I0 fun F => .bl _)
theorem ev_neg {i : Int} (ha : EvD ta Γ (.int i)) : EvD (tUn rNegI ta) Γ (.int (-i)) := fun C B F H σ w g Q q =>
  ha C B F H σ w g _ fun v F1 H1 g1 r1 => by
    rw [Rp.int_inv r1]
    exact ⟨i, rfl, q _ F1 H1 g1 (.int _)⟩
theorem ev_eqI {i j : Int} (ha : EvD ta Γ (.int i)) (hb : EvD tb Γ (.int j)) : EvD (tOp (rEqA K) ta tb) Γ (.bool (decide (i = j))) :=
  ev_op ha hb fun F H v u s r1 r2 Q q => by
    rw [r1.int_inv, r2.int_inv]
    refine .inl ⟨rfl, ?_⟩
    rw [show decide (V.int i = V.int j) = decide (i = j) by rw [dec_int, Bool.beq_eq_decide_eq]]
    exact q _ F H (.refl s) (.bl _)
theorem ev_neI {i j : Int} (ha : EvD ta Γ (.int i)) (hb : EvD tb Γ (.int j)) : EvD (tOp (rNeA K) ta tb) Γ (.bool (!decide (i = j))) :=
  ev_op ha hb fun F H v u s r1 r2 Q q => by
    rw [r1.int_inv, r2.int_inv]
    refine .inl ⟨rfl, ?_⟩
    rw [show decide (V.int i = V.int j) = decide (i = j) by rw [dec_int, Bool.beq_eq_decide_eq]]
    exact q _ F H (.refl s) (.bl _)
theorem ev_eqB {i j : Bool} (ha : EvD ta Γ (.bool i)) (hb : EvD tb Γ (.bool j)) : EvD (tOp (rEqA K) ta tb) Γ (.bool (decide (i = j))) :=
  ev_op ha hb fun F H v u s r1 r2 Q q => by
    rw [r1.bl_inv, r2.bl_inv]
    refine .inl ⟨rfl, ?_⟩
    rw [show decide (V.bl i = V.bl j) = decide (i = j) by rw [dec_bl, Bool.beq_eq_decide_eq]]
    exact q _ F H (.refl s) (.bl _)
theorem ev_neB {i j : Bool} (ha : EvD ta Γ (.bool i)) (hb : EvD tb Γ (.bool j)) : EvD (tOp (rNeA K) ta tb) Γ (.bool (!decide (i = j))) :=
  ev_op ha hb fun F H v u s r1 r2 Q q => by
    rw [r1.bl_inv, r2.bl_inv]
    refine .inl ⟨rfl, ?_⟩
    rw [show decide (V.bl i = V.bl j) = decide (i = j) by rw [dec_bl, Bool.beq_eq_decide_eq]]
    exact q _ F H (.refl s) (.bl _)
/-- data of any depth -/
theorem ev_eqD (ha : EvD ta Γ x) (hb : EvD tb Γ y) (h1 : SeqAt.shaped x = true) (h2 : SeqAt.shaped y = true) : EvD (tOp (rEqA K) ta tb) Γ (.bool (PyData.eqv x y)) :=
  ev_op ha hb fun F H v u s r1 r2 Q q => .inr ⟨x, y, (r1.mono s).dp h1, (r2.mono s).dp h2, h1, h2, q _ F H (.refl s) (.bl _)⟩
theorem ev_neD (ha : EvD ta Γ x) (hb : EvD tb Γ y) (h1 : SeqAt.shaped x = true) (h2 : SeqAt.shaped y = true) : EvD (tOp (rNeA K) ta tb) Γ (.bool (!PyData.eqv x y)) :=
  ev_op ha hb fun F H v u s r1 r2 Q q => .inr ⟨x, y, (r1.mono s).dp h1, (r2.mono s).dp h2, h1, h2, q _ F H (.refl s) (.bl _)⟩
def isNon : PyData → Bool | .none => true | _ => false
theorem Rp.isNon {F : Hp} {v : V} {d : PyData} (r : Rp F v d) : decide (v = .non) = isNon d := by
  cases r <;> rfl
theorem ev_isN (ha : EvD ta Γ x) : EvD (tOp rIsN ta (tC .non)) Γ (.bool (isNon x)) :=
  ev_op ha ev_non fun F H v u s r1 r2 Q q => ⟨r2.non_inv, by rw [r1.isNon]; exact q _ F H (.refl s) (.bl _)⟩
theorem ev_notN (ha : EvD ta Γ x) : EvD (tOp rNotN ta (tC .non)) Γ (.bool (!isNon x)) :=
  ev_op ha ev_non fun F H v u s r1 r2 Q q => ⟨r2.non_inv, by rw [r1.isNon]; exact q _ F H (.refl s) (.bl _)⟩
/-- lists joined -/
theorem en_cat (ha : RdL ta Γ ds) (hb : RdL tb Γ es) (hz : ds.length + es.length ≤ 100000) : EvN (tOp (rAddA K) ta tb) Γ (ds ++ es) :=
  ev_opLL ha hb fun F0 H0 F H p q vs us g0 h1 h2 r1 r2 Q k =>
    .inr (.inl ⟨p, q, vs, us, rfl, rfl, h1, h2, by rw [r1.length, r2.length]; exact size_ok hz, fun l hl =>
      k _ F _ (.newM g0.fh hl) ⟨l, _, rfl, g0.fresh hl, g0.fh.none hl, upd_same, r1.append r2⟩⟩)
/-- tuples joined -/
theorem ev_catT (ha : EvD ta Γ (.tuple ds)) (hb : EvD tb Γ (.tuple es)) (hz : ds.length + es.length ≤ 100000) : EvD (tOp (rAddA K) ta tb) Γ (.tuple (ds ++ es)) :=
  ev_op ha hb fun F H v u s r1 r2 Q q => by
    obtain ⟨a, xs, rfl, h1, q1⟩ := r1.tup_inv
    obtain ⟨b, ys, rfl, h2, q2⟩ := r2.tup_inv
    refine .inr (.inr ⟨a, b, xs, ys, rfl, rfl, SqT.of (s _ _ h1), SqT.of (s _ _ h2), by rw [q1.length, q2.length]; exact size_ok hz, fun e => ?_, fun _ e => ?_, fun _ _ p hp => ?_⟩)
    · subst e; cases q1
      exact q _ F H (.refl s) (.tup h2 q2)
    · subst e; cases q2
      exact q _ F H (.refl s) (by rw [List.append_nil]; exact .tup h1 q1)
    · exact q _ _ _ (.new s hp) (.tup upd_same ((q1.append q2).mono (Sub.new (s.none hp))))
/-- a tuple, several times -/
theorem ev_repT {k : Int} (ha : EvD ta Γ (.tuple ds)) (hb : EvD tb Γ (.int k)) (hn : ds ≠ []) (h1 : 2 ≤ k) (h2 : k ≤ 1000) (hz : ds.length ≤ 1000) : EvD (tOp (rMulA K) ta tb) Γ (.tuple (List.replicate k.toNat ds).flatten) :=
  ev_op ha hb fun F H v u s r1 r2 Q q => by
    obtain ⟨a, xs, rfl, e1, q1⟩ := r1.tup_inv
    rw [r2.int_inv]
    refine .inr (.inr (.inl ⟨a, k, xs, rfl, rfl, SqT.of (s _ _ e1), fun e => hn ?_, h1, h2, by rw [q1.length]; exact hz, fun p hp => ?_⟩))
    · subst e; cases q1; rfl
    · refine q _ _ _ (.new s hp) (.tup upd_same (RpAll.mono (Sub.new (s.none hp)) ?_))
      generalize k.toNat = n
      induction n with
      | zero => exact .nil
      | succ n ih => rw [List.replicate_succ, List.replicate_succ, List.flatten_cons, List.flatten_cons]; exact q1.append ih
/-- .. any number of times -/
theorem ev_repA {k : Nat} (ha : EvD ta Γ (.tuple ds)) (hb : EvD tb Γ (.int (k : Int))) (hn : ds ≠ []) (h2 : k ≤ 1000) (hz : ds.length ≤ 1000) : EvD (tOp (rMulA K) ta tb) Γ (.tuple (List.replicate k ds).flatten) := by
  by_cases h : 2 ≤ k
  · have := ev_repT (K := K) ha hb hn (by omega) (by omega) hz
    rwa [Int.toNat_natCast] at this
  · exact ev_op ha hb fun F H v u s r1 r2 Q q => by
      obtain ⟨a, xs, rfl, e1, q1⟩ := r1.tup_inv
      rw [r2.int_inv]
      refine .inr (.inr (.inr ⟨a, k, xs, rfl, rfl, SqT.of (s _ _ e1), fun e => hn (by subst e; cases q1; rfl), ?_⟩))
      match k, h with
      | 0, _ => exact .inr ⟨rfl, fun p hp => q _ _ _ (.new s hp) (.tup upd_same .nil)⟩
      | 1, _ => exact .inl ⟨rfl, q _ F H (.refl s) (by show Rp F _ (.tuple (ds ++ [])); rw [List.append_nil]; exact .tup e1 q1)⟩
      | n + 2, h => exact absurd (by omega) h
end

/-! ### and, or, not, tests -/
section
variable {te ta tb tc : TE} {Γ : List Sl} {d x y : PyData} {t u : TT} {a b : Bool} {K : PySem.W.Frag}
theorem et_B (h : EvD te Γ (.bool b)) : EvT (tB te) Γ b := fun C B F H σ w g Q q => h C B F H σ w g _ fun v F1 H1 g1 r1 => ⟨b, Rp.bl_inv r1, q F1 H1 g1⟩
theorem et_test (h : EvD te Γ (.bool b)) : EvT (tTest te) Γ b := fun C B F H σ w g Q q => h C B F H σ w g _ fun v F1 H1 g1 r1 => ⟨b, Rp.bl_inv r1, q F1 H1 g1⟩
theorem et_not (h : EvT t Γ a) : EvT (tNot t) Γ (!a) := fun C B F H σ w g Q q => h C B F H σ w g _ fun F1 H1 g1 => q F1 H1 g1
theorem et_yes : EvT tYes Γ true := fun C B F H σ w g Q q => q F H (.refl w.sub)
theorem et_and (h1 : EvT t Γ a) (h2 : a = true → EvT u Γ b) : EvT (tAnd t u) Γ (a && b) := fun C B F H σ w g Q q => h1 C B F H σ w g _ fun F1 H1 g1 => by
  cases a with
  | true =>
    show u σ H1 Q
    exact h2 rfl C B F1 H1 σ (w.grow g1) (g.grow g1.weak) Q fun F2 H2 g2 => q F2 H2 (g1.trans g2)
  | false =>
    show Q false H1
    exact q F1 H1 g1
theorem et_or (h1 : EvT t Γ a) (h2 : a = false → EvT u Γ b) : EvT (tOr t u) Γ (a || b) := fun C B F H σ w g Q q => h1 C B F H σ w g _ fun F1 H1 g1 => by
  cases a with
  | true =>
    show Q true H1
    exact q F1 H1 g1
  | false =>
    show u σ H1 Q
    exact h2 rfl C B F1 H1 σ (w.grow g1) (g.grow g1.weak) Q fun F2 H2 g2 => q F2 H2 (g1.trans g2)
theorem ev_andV (h1 : EvD ta Γ (.bool a)) (h2 : a = true → EvD tb Γ (.bool b)) : EvD (tAndV ta tb) Γ (.bool (a && b)) := fun C B F H σ w g Q q => h1 C B F H σ w g _ fun v F1 H1 g1 r1 => ⟨a, Rp.bl_inv r1, by
  cases a with
  | true =>
    show tb σ H1 Q
    exact h2 rfl C B F1 H1 σ (w.grow g1) (g.grow g1.weak) Q fun v F2 H2 g2 r2 => q v F2 H2 (g1.trans g2) r2
  | false =>
    show Q (.bl false) H1
    exact q _ F1 H1 g1 (.bl _)⟩
theorem ev_orV (h1 : EvD ta Γ (.bool a)) (h2 : a = false → EvD tb Γ (.bool b)) : EvD (tOrV ta tb) Γ (.bool (a || b)) := fun C B F H σ w g Q q => h1 C B F H σ w g _ fun v F1 H1 g1 r1 => ⟨a, Rp.bl_inv r1, by
  cases a with
  | true =>
    show Q (.bl true) H1
    exact q _ F1 H1 g1 (.bl _)
  | false =>
    show tb σ H1 Q
    exact h2 rfl C B F1 H1 σ (w.grow g1) (g.grow g1.weak) Q fun v F2 H2 g2 r2 => q v F2 H2 (g1.trans g2) r2⟩
theorem ev_notV (h1 : EvD ta Γ (.bool a)) : EvD (tNotV ta) Γ (.bool (!a)) := fun C B F H σ w g Q q => h1 C B F H σ w g _ fun v F1 H1 g1 r1 => ⟨a, Rp.bl_inv r1, q _ F1 H1 g1 (.bl _)⟩
theorem ev_if (h : EvT t Γ b) (h1 : b = true → EvD ta Γ x) (h2 : b = false → EvD tb Γ y) : EvD (tIf t ta tb) Γ (if b = true then x else y) := fun C B F H σ w g Q q => h C B F H σ w g _ fun F1 H1 g1 => by
  cases b with
  | true =>
    show ta σ H1 Q
    exact h1 rfl C B F1 H1 σ (w.grow g1) (g.grow g1.weak) Q fun v F2 H2 g2 r2 => q v F2 H2 (g1.trans g2) r2
  | false =>
    show tb σ H1 Q
    exact h2 rfl C B F1 H1 σ (w.grow g1) (g.grow g1.weak) Q fun v F2 H2 g2 r2 => q v F2 H2 (g1.trans g2) r2
/-- a op b op c -/
theorem ev_chain {r r' : R2} {z : PyData} (ha : EvD ta Γ x) (hb : EvD tb Γ y) (hr : RV r x y (.bool a)) (hc : a = true → EvD tc Γ z) (hr' : a = true → RV r' y z (.bool b)) : EvD (tChain r r' ta tb tc) Γ (.bool (a && b)) := fun C B F H σ w g Q q =>
  ha C B F H σ w g _ fun v F1 H1 g1 r1 => hb C B F1 H1 σ (w.grow g1) (g.grow g1.weak) _ fun u F2 H2 g2 r2 =>
    hr F2 H2 v u g2.fh (r1.mono g2.ff) r2 _ fun z' F3 H3 g3 r3 => ⟨a, Rp.bl_inv r3, by
      have w3 := ((w.grow g1).grow g2).grow g3
      have e3 : Gm C B F3 H3 σ Γ := ((g.grow g1.weak).grow g2.weak).grow g3.weak
      cases a with
      | true =>
        show tc σ H3 _
        exact hc rfl C B F3 H3 σ w3 e3 _ fun z4 F4 H4 g4 r4 => hr' rfl F4 H4 u z4 g4.fh ((r2.mono g3.ff).mono g4.ff) r4 Q fun z5 F5 H5 g5 r5 => q z5 F5 H5 ((((g1.trans g2).trans g3).trans g4).trans g5) r5
      | false =>
        show Q (.bl false) H3
        exact q _ F3 H3 ((g1.trans g2).trans g3) (.bl _)⟩
theorem rv_le {i j : Int} : RV rLeI (.int i) (.int j) (.bool (decide (i ≤ j))) := rv_I0 fun F => .bl _
theorem rv_lt {i j : Int} : RV rLtI (.int i) (.int j) (.bool (decide (i < j))) := rv_I0 fun F => .bl _

/-! ### arguments, displays -/
theorem ea_nil : EvA tNil Γ [] := fun C B F H σ w g Q q => q [] F H (.refl w.sub) .nil
theorem ea_cons {tr : TA} {ds : List PyData} (h : EvD te Γ d) (hr : EvA tr Γ ds) : EvA (tCons te tr) Γ (d :: ds) := fun C B F H σ w g Q q =>
  h C B F H σ w g _ fun v F1 H1 g1 r1 => hr C B F1 H1 σ (w.grow g1) (g.grow g1.weak) _ fun vs F2 H2 g2 r2 => q _ F2 H2 (g1.trans g2) (.cons (r1.mono g2.ff) r2)
theorem ev_tup {ts : TA} {ds : List PyData} (h : EvA ts Γ ds) (hz : ds.length ≤ 100000) : EvD (tTup ts) Γ (.tuple ds) := fun C B F H σ w g Q q =>
  h C B F H σ w g _ fun vs F1 H1 g1 r1 => ⟨by rw [r1.length]; exact size_ok hz, fun p hp => q _ _ _ (g1.trans (.new g1.fh hp)) (.tup upd_same (r1.mono (Sub.new (g1.fh.none hp))))⟩
theorem en_lst {ts : TA} {ds : List PyData} (h : EvA ts Γ ds) (hz : ds.length ≤ 100000) : EvN (tLst ts) Γ ds := fun C B F H σ w g Q q =>
  h C B F H σ w g _ fun vs F1 H1 g1 r1 => ⟨by rw [r1.length]; exact size_ok hz, fun p hp => q _ F1 _ (g1.trans (.newM g1.fh hp)) ⟨p, vs, rfl, g1.fresh hp, g1.fh.none hp, upd_same, r1⟩⟩
end
end Eh

namespace Eh
open PySem PySem.Spec PyProof.Rows L2

/-! ### what a def is to do -/
inductive Out where
  | ok (d : PyData)
  | err (c : Addr) (f : Option (List (Str × V)))
def XcOk (c : Addr) (f : Option (List (Str × V))) (cv : Value) (dd : Option Addr) (H : Hp) : Prop :=
  cv = .ref c ∧ match f with
    | none => dd = none
    | some fs => ∃ p, dd = some p ∧ H p = some (.xd fs)
def spR (R : List PyData → Out → Prop) : Sp := fun vs H Q E => ∃ F ds o, Sub F H ∧ RpAll F vs ds ∧ R ds o ∧
  (∀ d, o = .ok d → ∀ v F' H', Grow [] F H F' H' → Rp F' v d → Q v H') ∧
  (∀ c f, o = .err c f → ∀ cv dd F' H', Grow [] F H F' H' → XcOk c f cv dd H' → E cv dd H')
/-- .. that hands back a new list -/
def spN (R : List PyData → List PyData → Prop) : Sp := fun vs H Q _ => ∃ F ds es, Sub F H ∧ RpAll F vs ds ∧ R ds es ∧
  ∀ p us F' H', Grow [] F H F' H' → H p = none → F' p = none → H' p = some (.lst us) → RpAll F' us es → Q (.ref p) H'
def EvX (te : TE) (Γ : List Sl) (E : XK) (c : Addr) (f : Option (List (Str × V))) : Prop :=
  ∀ (C : Pc) (B F H : Hp) (σ : L2.St), Wd C F H → Gm C B F H σ Γ → ∀ Q : VK, (∀ cv dd F' H', Grow [] F H F' H' → XcOk c f cv dd H' → E cv dd H') → te σ H Q
section
variable {te : TE} {ta : TA} {Γ : List Sl} {d x y : PyData} {ds es : List PyData} {R : List PyData → Out → Prop} {E : XK} {K : PySem.W.Frag}
theorem ev_call (h : EvA ta Γ ds) (hR : R ds (.ok d)) : EvD (tCall (spR R) [] E ta) Γ d := fun C B F H σ w g Q q =>
  h C B F H σ w g _ fun vs F1 H1 g1 r1 => ⟨F1, ds, .ok d, g1.fh, by rw [List.append_nil]; exact r1, hR, fun d' e v F2 H2 g2 r2 => by cases e; exact q v F2 H2 (g1.trans g2) r2, fun c f e => nomatch e⟩
theorem ex_call {c : Addr} {f : Option (List (Str × V))} (h : EvA ta Γ ds) (hR : R ds (.err c f)) : EvX (tCall (spR R) [] E ta) Γ E c f := fun C B F H σ w g Q q =>
  h C B F H σ w g _ fun vs F1 H1 g1 r1 => ⟨F1, ds, .err c f, g1.fh, by rw [List.append_nil]; exact r1, hR, (fun d' e => nomatch e), fun c' f' e cv dd F2 H2 g2 x => by cases e; exact q cv dd F2 H2 (g1.trans g2) x⟩
theorem en_call {R : List PyData → List PyData → Prop} (h : EvA ta Γ ds) (hR : R ds es) : EvN (tCall (spN R) [] E ta) Γ es := fun C B F H σ w g Q q =>
  h C B F H σ w g _ fun vs F1 H1 g1 r1 => ⟨F1, ds, es, g1.fh, by rw [List.append_nil]; exact r1, hR, fun p us F2 H2 g2 n f l r => q _ F2 H2 (g1.trans g2) ⟨p, us, rfl, g1.fresh n, f, l, r⟩⟩
end

/-! ### built-ins -/
def rLenA (K : PySem.W.Frag) : List V → Hp → VK → Prop := fun xs H Q => (∃ p ys, xs = [.ref p] ∧ (SqL K H p ys ∨ SqT K H p ys) ∧ Q (.int ys.length) H) ∨ ∃ z, xs = [.str z] ∧ z.length ≤ sizeLine ∧ Q (.int z.length) H
def rListA (K : PySem.W.Frag) : List V → Hp → VK → Prop := fun xs H Q => ∃ p ys, xs = [.ref p] ∧ (SqL K H p ys ∨ SqT K H p ys) ∧ ∀ l, H l = none → Q (.ref l) (upd H l (.lst ys))
def rIntA : List V → Hp → VK → Prop := fun xs H Q => (∃ i, xs = [.int i] ∧ Q (.int i) H) ∨ ∃ k, xs = [.bl k] ∧ Q (.int (if k then 1 else 0)) H
def rMin2 : List V → Hp → VK → Prop := fun xs H Q => ∃ i j, xs = [.int i, .int j] ∧ Q (.int (if j < i then j else i)) H
def rMax2 : List V → Hp → VK → Prop := fun xs H Q => ∃ i j, xs = [.int i, .int j] ∧ Q (.int (if j > i then j else i)) H
def rAbsA : List V → Hp → VK → Prop := fun xs H Q => ∃ i, xs = [.int i] ∧ Q (.int (if i < 0 then -i else i)) H
def rStrI : List V → Hp → VK → Prop := fun xs H Q => ∃ i, xs = [.int i] ∧ i.natAbs.log2 < 1920 ∧ Q (.str (toString i)) H
section
variable {X : Cx}
theorem cLen : CallR X (.builtin "len") (rLenA X.K) := call_len_seq.or call_len_str
theorem cList : CallR X (.type "list") (rListA X.K) := call_list_of
theorem cInt : CallR X (.type "int") rIntA := call_int1
theorem cMin2 (hc : X.calm = true) : CallR X (.builtin "min") rMin2 := call_min2 hc
theorem cMax2 (hc : X.calm = true) : CallR X (.builtin "max") rMax2 := call_max2 hc
theorem cAbs : CallR X (.builtin "abs") rAbsA := call_abs
theorem cStr : CallR X (.type "str") rStrI := call_str_int
end
section
variable {te ta tb : TE} {Γ : List Sl} {d x y : PyData} {ds es : List PyData} {K : PySem.W.Frag} {ts : TA}
theorem ev_len (h : RdS ta Γ ds) : EvD (tCB (rLenA K) (tCons ta tNil)) Γ (.int ds.length) := fun C B F H σ w g Q q =>
  h C B F H σ w g _ fun v F1 H1 g1 ⟨p, vs, e, l, r⟩ => by
    subst e
    refine .inl ⟨p, vs, rfl, l.imp SqL.of SqT.of, ?_⟩
    rw [r.length]
    exact q _ F1 H1 g1 (.int _)
theorem ev_lenS {z : Str} (h : EvD ta Γ (.str z)) (hz : z.length ≤ 100000) : EvD (tCB (rLenA K) (tCons ta tNil)) Γ (.int z.length) := fun C B F H σ w g Q q =>
  h C B F H σ w g _ fun v F1 H1 g1 r => by
    rw [Rp.str_inv r]
    exact .inr ⟨z, rfl, size_ok hz, q _ F1 H1 g1 (.int _)⟩
theorem en_list (h : RdS ta Γ ds) : EvN (tCB (rListA K) (tCons ta tNil)) Γ ds := fun C B F H σ w g Q q =>
  h C B F H σ w g _ fun v F1 H1 g1 ⟨p, vs, e, l, r⟩ => by
    subst e
    exact ⟨p, vs, rfl, l.imp SqL.of SqT.of, fun l hl => q _ F1 _ (g1.trans (.newM g1.fh hl)) ⟨l, vs, rfl, g1.fresh hl, g1.fh.none hl, upd_same, r⟩⟩
theorem ev_tuple (h : RdS ta Γ ds) (hT : EvD ta Γ (.tuple ds) ∨ RdL ta Γ ds) : EvD (tThen ta (kTup K)) Γ (.tuple ds) := by
  rcases hT with hT | hT
  · exact fun C B F H σ w g Q q => hT C B F H σ w g _ fun v F1 H1 g1 r1 => by
      obtain ⟨a, xs, rfl, f, ra⟩ := Rp.tup_inv r1
      exact .inr ⟨a, xs, rfl, SqT.of (g1.fh _ _ f), q _ F1 H1 g1 r1⟩
  · exact fun C B F H σ w g Q q => hT C B F H σ w g _ fun v F1 H1 g1 ⟨p, vs, e, l, r⟩ => by
      subst e
      exact .inl ⟨p, vs, rfl, SqL.of l, fun t ht => q _ _ _ (g1.trans (.new g1.fh ht)) (.tup upd_same (r.mono (Sub.new (g1.fh.none ht))))⟩
theorem ev_tupleL (h : RdL ta Γ ds) : EvD (tThen ta (kTup K)) Γ (.tuple ds) := ev_tuple h.s (.inr h)
theorem ev_tupleT (h : EvD ta Γ (.tuple ds)) : EvD (tThen ta (kTup K)) Γ (.tuple ds) := ev_tuple h.rt (.inl h)
theorem ev_cint {i : Int} (h : EvD ta Γ (.int i)) : EvD (tCB rIntA (tCons ta tNil)) Γ (.int i) := fun C B F H σ w g Q q =>
  h C B F H σ w g _ fun v F1 H1 g1 r => by
    rw [Rp.int_inv r]
    exact .inl ⟨i, rfl, q _ F1 H1 g1 (.int _)⟩
theorem ev_cintB {b : Bool} (h : EvD ta Γ (.bool b)) : EvD (tCB rIntA (tCons ta tNil)) Γ (.int (if b then 1 else 0)) := fun C B F H σ w g Q q =>
  h C B F H σ w g _ fun v F1 H1 g1 r => by
    rw [Rp.bl_inv r]
    exact .inr ⟨b, rfl, q _ F1 H1 g1 (.int _)⟩
theorem ev_min2 {i j : Int} (ha : EvD ta Γ (.int i)) (hb : EvD tb Γ (.int j)) : EvD (tCB rMin2 (tCons ta (tCons tb tNil))) Γ (.int (if j < i then j else i)) := fun C B F H σ w g Q q =>
  ha C B F H σ w g _ fun v F1 H1 g1 r1 => hb C B F1 H1 σ (w.grow g1) (g.grow g1.weak) _ fun u F2 H2 g2 r2 => by
    rw [Rp.int_inv r1, Rp.int_inv r2]
    exact ⟨i, j, rfl, q _ F2 H2 (g1.trans g2) (.int _)⟩
theorem ev_max2 {i j : Int} (ha : EvD ta Γ (.int i)) (hb : EvD tb Γ (.int j)) : EvD (tCB rMax2 (tCons ta (tCons tb tNil))) Γ (.int (if j > i then j else i)) := fun C B F H σ w g Q q =>
  ha C B F H σ w g _ fun v F1 H1 g1 r1 => hb C B F1 H1 σ (w.grow g1) (g.grow g1.weak) _ fun u F2 H2 g2 r2 => by
    rw [Rp.int_inv r1, Rp.int_inv r2]
    exact ⟨i, j, rfl, q _ F2 H2 (g1.trans g2) (.int _)⟩
theorem ev_abs {i : Int} (h : EvD ta Γ (.int i)) : EvD (tCB rAbsA (tCons ta tNil)) Γ (.int (if i < 0 then -i else i)) := fun C B F H σ w g Q q =>
  h C B F H σ w g _ fun v F1 H1 g1 r => by
    rw [Rp.int_inv r]
    exact ⟨i, rfl, q _ F1 H1 g1 (.int _)⟩
theorem ev_cstr {i : Int} (h : EvD ta Γ (.int i)) (hi : i.natAbs.log2 < 1920) : EvD (tCB rStrI (tCons ta tNil)) Γ (.str (toString i)) := fun C B F H σ w g Q q =>
  h C B F H σ w g _ fun v F1 H1 g1 r => by
    rw [Rp.int_inv r]
    exact ⟨i, rfl, hi, q _ F1 H1 g1 (.str _)⟩
theorem ev_all {bs : List Bool} (h : RdL ta Γ (bs.map .bool)) : EvD (tCB (rAll K) (tCons ta tNil)) Γ (.bool (bs.all id)) := fun C B F H σ w g Q q =>
  h C B F H σ w g _ fun v F1 H1 g1 ⟨p, vs, e, l, r⟩ => by
    subst e
    exact ⟨p, bs, rfl, SqL.of (by rw [l, r.bls]), q _ F1 H1 g1 (.bl _)⟩
theorem ev_any {bs : List Bool} (h : RdL ta Γ (bs.map .bool)) : EvD (tCB (rAny K) (tCons ta tNil)) Γ (.bool (bs.any id)) := fun C B F H σ w g Q q =>
  h C B F H σ w g _ fun v F1 H1 g1 ⟨p, vs, e, l, r⟩ => by
    subst e
    exact ⟨p, bs, rfl, SqL.of (by rw [l, r.bls]), q _ F1 H1 g1 (.bl _)⟩
theorem ev_sumL {ns : List Int} (h : RdL ta Γ (ns.map .int)) : EvD (tCB (rSum K) (tCons ta tNil)) Γ (.int ns.sum) := fun C B F H σ w g Q q =>
  h C B F H σ w g _ fun v F1 H1 g1 ⟨p, vs, e, l, r⟩ => by
    subst e
    exact ⟨p, ns, rfl, SqL.of (by rw [l, r.ints]), q _ F1 H1 g1 (.int _)⟩
theorem ev_minL {ns : List Int} {m : Int} (h : RdL ta Γ (ns.map .int)) (h1 : m ∈ ns) (h2 : ∀ k ∈ ns, m ≤ k) : EvD (tCB (rMin K) (tCons ta tNil)) Γ (.int m) := fun C B F H σ w g Q q =>
  h C B F H σ w g _ fun v F1 H1 g1 ⟨p, vs, e, l, r⟩ => by
    subst e
    refine ⟨p, ns, rfl, SqL.of (by rw [l, r.ints]), List.length_pos_of_mem h1, fun k hk hl => ?_⟩
    have e : k = m := Int.le_antisymm (hl m h1) (h2 k hk)
    subst e
    exact q _ F1 H1 g1 (.int _)
theorem ev_maxL {ns : List Int} {m : Int} (h : RdL ta Γ (ns.map .int)) (h1 : m ∈ ns) (h2 : ∀ k ∈ ns, k ≤ m) : EvD (tCB (rMax K) (tCons ta tNil)) Γ (.int m) := fun C B F H σ w g Q q =>
  h C B F H σ w g _ fun v F1 H1 g1 ⟨p, vs, e, l, r⟩ => by
    subst e
    refine ⟨p, ns, rfl, SqL.of (by rw [l, r.ints]), List.length_pos_of_mem h1, fun k hk hl => ?_⟩
    have e : k = m := Int.le_antisymm (h2 k hk) (hl m h1)
    subst e
    exact q _ F1 H1 g1 (.int _)

/-! ### subscripts, in, slices -/
theorem ev_ix {i : Int} (ha : RdS ta Γ ds) (hb : EvD tb Γ (.int i)) (h : atI ds i = some d) : EvD (tOp (rIx K) ta tb) Γ d :=
  ev_opSD ha hb fun F0 H0 F H p vs u g0 hp r ru Q q => by
    rw [Rp.int_inv ru]
    obtain ⟨j, e1, e2⟩ : ∃ j, ixN ds.length i = some j ∧ ds[j]? = some d := by
      unfold atI at h
      cases e : ixN ds.length i with
      | none => rw [e] at h; cases h
      | some j => rw [e] at h; exact ⟨j, rfl, h⟩
    obtain ⟨v, h1, h2⟩ := r.get e2
    have a : atI vs i = some v := by unfold atI; rw [r.length, e1]; exact h1
    rcases hp with hp | hp
    · exact .inl ⟨p, vs, i, v, rfl, rfl, SqL.of hp, a, q v F H (.refl g0.fh) h2⟩
    · exact .inr (.inl ⟨p, vs, i, v, rfl, rfl, SqT.of hp, a, q v F H (.refl g0.fh) h2⟩)
theorem ev_ixN {n : Nat} (ha : RdS ta Γ ds) (hb : EvD tb Γ (.int (n : Int))) (h : ds[n]? = some d) : EvD (tOp (rIx K) ta tb) Γ d := ev_ix ha hb (atI_nat h)
def flatD : PyData → Bool | .list _ => false | .tuple _ => false | .dict _ => false | _ => true
theorem Rp.flat {F : Hp} {v : V} (r : Rp F v d) (h : flatD d = true) : flatV v = true := by
  cases r with
  | lst _ _ => cases h
  | tup _ _ => cases h
  | dct _ => cases h
  | _ => rfl
theorem RpAll.flatD {F : Hp} {vs : List V} (r : RpAll F vs ds) (h : ds.all flatD = true) : vs.all flatV = true := by
  induction ds generalizing vs with
  | nil => cases r; rfl
  | cons d ds ih => cases r with | cons r1 r2 => rw [List.all_cons, Bool.and_eq_true] at h ⊢; exact ⟨r1.flat h.1, ih r2 h.2⟩

theorem eqV_eqv {F : Hp} {v u : V} {x y : PyData} (r : Rp F v x) (q : Rp F u y) (h : flatD x = true) (k : flatD y = true) : eqV v u = PyData.eqv x y := by
  cases r with
  | lst _ _ => cases h
  | tup _ _ => cases h
  | _ => cases q with
    | lst _ _ => cases k
    | tup _ _ => cases k
    | _ => rfl
theorem inV_eqv {F : Hp} {v : V} {vs : List V} (r : Rp F v x) (q : RpAll F vs ds) (h : flatD x = true) (k : ds.all flatD = true) : inV v vs = ds.any fun z => PyData.eqv z x := by
  unfold inV
  induction ds generalizing vs with
  | nil => cases q; rfl
  | cons d ds ih =>
    cases q with
    | cons r1 r2 =>
      rw [List.all_cons, Bool.and_eq_true] at k
      rw [List.any_cons, List.any_cons, eqV_eqv r1 r k.1 h, ih r2 k.2]
theorem ev_inF (ha : EvD ta Γ x) (hb : RdS tb Γ ds) (h : flatD x = true) (k : ds.all flatD = true) : EvD (tOp (rIn K false) ta tb) Γ (.bool (ds.any fun z => PyData.eqv z x)) :=
  ev_opDS ha hb fun F0 H0 F H v p us g0 rv hp r Q q => by
    refine ⟨p, us, rfl, hp.imp SqL.of SqT.of, rv.flat h, r.flatD k, ?_⟩
    rw [inV_eqv rv r h k]
    exact q _ F H (.refl g0.fh) (.bl _)
theorem ev_niF (ha : EvD ta Γ x) (hb : RdS tb Γ ds) (h : flatD x = true) (k : ds.all flatD = true) : EvD (tOp (rIn K true) ta tb) Γ (.bool (!(ds.any fun z => PyData.eqv z x))) :=
  ev_opDS ha hb fun F0 H0 F H v p us g0 rv hp r Q q => by
    refine ⟨p, us, rfl, hp.imp SqL.of SqT.of, rv.flat h, r.flatD k, ?_⟩
    rw [inV_eqv rv r h k]
    exact q _ F H (.refl g0.fh) (.bl _)
theorem flat_ints (ns : List Int) : (ns.map PyData.int).all flatD = true := by
  induction ns with
  | nil => rfl
  | cons n ns ih => exact ih
theorem any_ints (ns : List Int) (k : Int) : ((ns.map PyData.int).any fun z => PyData.eqv z (.int k)) = decide (k ∈ ns) := by
  induction ns with
  | nil => rfl
  | cons n ns ih =>
    rw [List.map_cons, List.any_cons, ih]
    show ((n == k) || decide (k ∈ ns)) = _
    by_cases h : k = n
    · subst h; simp
    · simp [h, Ne.symm h]
theorem flat_nats (ns : List Nat) : (ns.map fun n : Nat => PyData.int n).all flatD = true := by
  induction ns with
  | nil => rfl
  | cons n ns ih => exact ih
theorem any_nats (ns : List Nat) (k : Nat) : ((ns.map fun n : Nat => PyData.int n).any fun z => PyData.eqv z (.int k)) = decide (k ∈ ns) := by
  induction ns with
  | nil => rfl
  | cons n ns ih =>
    rw [List.map_cons, List.any_cons, ih]
    show (((n : Int) == (k : Int)) || decide (k ∈ ns)) = _
    by_cases h : k = n
    · subst h; simp
    · have h2 : ((n : Int) == (k : Int)) = false := beq_eq_false_iff_ne.mpr (by omega)
      rw [h2]; simp [h]
theorem ev_inI {ns : List Int} {k : Int} (ha : EvD ta Γ (.int k)) (hb : RdS tb Γ (ns.map .int)) : EvD (tOp (rIn K false) ta tb) Γ (.bool (decide (k ∈ ns))) := (ev_inF ha hb rfl (flat_ints ns)).is (by rw [any_ints])
theorem ev_niI {ns : List Int} {k : Int} (ha : EvD ta Γ (.int k)) (hb : RdS tb Γ (ns.map .int)) : EvD (tOp (rIn K true) ta tb) Γ (.bool (!decide (k ∈ ns))) := (ev_niF ha hb rfl (flat_ints ns)).is (by rw [any_ints])
theorem ev_inN {ns : List Nat} {k : Nat} (ha : EvD ta Γ (.int k)) (hb : RdS tb Γ (ns.map fun n : Nat => .int n)) : EvD (tOp (rIn K false) ta tb) Γ (.bool (decide (k ∈ ns))) := (ev_inF ha hb rfl (flat_nats ns)).is (by rw [any_nats])
theorem ev_niN {ns : List Nat} {k : Nat} (ha : EvD ta Γ (.int k)) (hb : RdS tb Γ (ns.map fun n : Nat => .int n)) : EvD (tOp (rIn K true) ta tb) Γ (.bool (!decide (k ∈ ns))) := (ev_niF ha hb rfl (flat_nats ns)).is (by rw [any_nats])
/-- slices -/
def EvO (to : TO) (Γ : List Sl) (o : Option Int) : Prop :=
  ∀ (C : Pc) (B F H : Hp) (σ : L2.St), Wd C F H → Gm C B F H σ Γ → ∀ Q : Option Int → Hp → Prop, (∀ F' H', Grow [] F H F' H' → Q o H') → to σ H Q
theorem eo_none : EvO tNoPart Γ none := fun C B F H σ w g Q q => q F H (.refl w.sub)
theorem eo_some {i : Int} (h : EvD te Γ (.int i)) : EvO (tPart te) Γ (some i) := fun C B F H σ w g Q q => h C B F H σ w g _ fun v F1 H1 g1 r => ⟨i, Rp.int_inv r, q F1 H1 g1⟩
def cutD {α : Type} (xs : List α) (lo hi : Option Int) : List α := (xs.drop (HT.sIx xs.length 0 lo)).take (HT.sIx xs.length xs.length hi - HT.sIx xs.length 0 lo)
def rSlB (K : PySem.W.Frag) : V → Option Int → Option Int → Hp → VK → Prop := fun x lo hi H Q => rSlL K x lo hi H Q ∨ rSlA K x lo hi H Q
theorem sSeq {X : Cx} : SlR X (rSlB X.K) := sl_list.or sl_tupA
theorem RpAll.cut {F : Hp} {vs : List V} (r : RpAll F vs ds) (lo hi : Option Int) : RpAll F (cutV vs lo hi) (cutD ds lo hi) := by
  unfold cutV cutD
  rw [r.length]
  exact (r.drop _).take _
theorem cut_whole {α : Type} {xs : List α} {lo hi : Option Int} (h : HT.sIx xs.length 0 lo = 0 ∧ HT.sIx xs.length xs.length hi = xs.length) : cutD xs lo hi = xs := by
  unfold cutD
  rw [h.1, h.2, List.drop_zero, Nat.sub_zero, List.take_length]
theorem ev_slT {tl th : TO} {lo hi : Option Int} (h : EvD te Γ (.tuple ds)) (hl : EvO tl Γ lo) (hh : EvO th Γ hi) : EvD (tSl (rSlB K) te tl th) Γ (.tuple (cutD ds lo hi)) := fun C B F H σ w g Q q =>
  h C B F H σ w g _ fun v F1 H1 g1 r1 => hl C B F1 H1 σ (w.grow g1) (g.grow g1.weak) _ fun F2 H2 g2 => hh C B F2 H2 σ ((w.grow g1).grow g2) ((g.grow g1.weak).grow g2.weak) _ fun F3 H3 g3 => by
    have r3 := (Rp.mono g2.ff r1).mono g3.ff
    obtain ⟨a, xs, rfl, f, ra⟩ := Rp.tup_inv r3
    have gg := (g1.trans g2).trans g3
    refine .inr ⟨a, xs, rfl, SqT.of (g3.fh _ _ f), fun hw => ?_, fun _ p hp => ?_⟩
    · rw [ra.length] at hw
      exact q _ F3 H3 gg (by rw [cut_whole hw]; exact r3)
    · exact q _ _ _ (gg.trans (.new g3.fh hp)) (.tup upd_same ((ra.cut lo hi).mono (Sub.new (g3.fh.none hp))))
theorem en_slL {tl th : TO} {lo hi : Option Int} (h : RdL te Γ ds) (hl : EvO tl Γ lo) (hh : EvO th Γ hi) : EvN (tSl (rSlB K) te tl th) Γ (cutD ds lo hi) := fun C B F H σ w g Q q =>
  h C B F H σ w g _ fun v F1 H1 g1 ⟨p, vs, e, l, r⟩ => hl C B F1 H1 σ (w.grow g1) (g.grow g1.weak) _ fun F2 H2 g2 => hh C B F2 H2 σ ((w.grow g1).grow g2) ((g.grow g1.weak).grow g2.weak) _ fun F3 H3 g3 => by
    subst e
    have gg := (g1.trans g2).trans g3
    refine .inl ⟨p, vs, rfl, SqL.of (g3.sub _ _ (g2.sub _ _ l)), fun q' hq => ?_⟩
    exact q _ F3 _ (gg.trans (.newM g3.fh hq)) ⟨q', _, rfl, gg.fresh hq, g3.fh.none hq, upd_same, ((r.mono g2.ff).mono g3.ff).cut lo hi⟩
end

/-! ### what a loop walks -/
def WkH (J : It) (F1 H1 : Hp) (ds : List PyData) : Prop := ∀ F2 H2, Grow [] F1 H1 F2 H2 →
  (∀ i d, ds[i]? = some d → J.go i H2 ∧ ∀ x H', J.yld i H2 x H' → ∃ F', Grow [] F2 H2 F' H' ∧ Rp F' x d) ∧ J.stop ds.length H2
def WkF (J : It) (F1 : Hp) (ds : List PyData) : Prop := ∀ F2 H2, Sub F1 F2 → Sub F2 H2 →
  (∀ i d, ds[i]? = some d → J.go i H2 ∧ ∀ x H', J.yld i H2 x H' → ∃ F', Grow [] F2 H2 F' H' ∧ Rp F' x d) ∧ J.stop ds.length H2
def IterH (wi : TI) (Γ : List Sl) (ds : List PyData) : Prop :=
  ∀ (C : Pc) (B F H : Hp) (σ : L2.St), Wd C F H → Gm C B F H σ Γ → ∀ R : It → Hp → Prop, (∀ J F' H', Grow [] F H F' H' → WkH J F' H' ds → R J H') → wi σ H R
def IterF (wi : TI) (Γ : List Sl) (ds : List PyData) : Prop :=
  ∀ (C : Pc) (B F H : Hp) (σ : L2.St), Wd C F H → Gm C B F H σ Γ → ∀ R : It → Hp → Prop, (∀ J F' H', Grow [] F H F' H' → WkF J F' ds → R J H') → wi σ H R
def iSeq (K : PySem.W.Frag) (tl : TE) : TI := fun σ H R => tl σ H fun x H1 => ∃ a, x = .ref a ∧ (((∃ xs, SqL K H1 a xs) ∧ R (Itl K a) H1) ∨ ((∃ xs, SqT K H1 a xs) ∧ R (Itt K a) H1))
theorem pi_seq {X : Cx} {tg l : Expr} {tl : TE} (hl : PE X l tl) : PI X tg l (iSeq X.K tl) := by
  refine ⟨fun pins s σ H R I h => ?_⟩
  refine thn (hl.run pins s σ H _ I h) fun v s1 ⟨x, H1, I1, r1, q1⟩ => ?_
  obtain ⟨a, e, q⟩ := q1
  subst e
  cases r1
  rcases q with ⟨⟨xs, hq⟩, q⟩ | ⟨⟨xs, hq⟩, q⟩
  · obtain ⟨its, rv, p, hz⟩ := I1.list hq
    refine wpAny_pyIter_list p.isList ?_
    refine ⟨s1.heap.objs.size, [s1.heap.objs.size], _, _, H1, rfl, I1.kept (t' := s1.toks) fun b o e => Heap.get?_push_of_some _ e, turn_list a _, ⟨_, Heap.get?_push_size _ rfl, rfl, rfl⟩, fun b hb => ?_, q⟩
    have e : b = s1.heap.objs.size := by simpa using hb
    subst e
    exact I1.fpOk (Nat.le_refl _) (I1.hok.fresh (Nat.le_refl _))
  · obtain ⟨its, rv, p, hz⟩ := I1.tuple hq
    refine wpAny_pyIter_tuple (show s1.heap.IsTuple a its.toArray from p) ?_
    refine ⟨s1.heap.objs.size, [s1.heap.objs.size], _, _, H1, rfl, I1.kept (t' := s1.toks) fun b o e => Heap.get?_push_of_some _ e, turn_tuple a _, ⟨_, Heap.get?_push_size _ rfl, rfl, rfl⟩, fun b hb => ?_, q⟩
    have e : b = s1.heap.objs.size := by simpa using hb
    subst e
    exact I1.fpOk (Nat.le_refl _) (I1.hok.fresh (Nat.le_refl _))
section
variable {te ta tb : TE} {ts : TA} {Γ : List Sl} {d x y : PyData} {ds es : List PyData} {K : PySem.W.Frag}
theorem IterF.h {wi : TI} (h : IterF wi Γ ds) : IterH wi Γ ds := fun C B F H σ w g R r => h C B F H σ w g R fun J F1 H1 g1 k => r J F1 H1 g1 fun F2 H2 g2 => k F2 H2 g2.ff g2.fh
/-- what stands at each turn, of a list, of a tuple -/
theorem wk_list {a : Addr} {vs : List V} {F H : Hp} (s : Sub F H) (h : H a = some (.lst vs)) (r : RpAll F vs ds) :
    (∀ i d, ds[i]? = some d → (Itl K a).go i H ∧ ∀ x H', (Itl K a).yld i H x H' → ∃ F', Grow [] F H F' H' ∧ Rp F' x d) ∧ (Itl K a).stop ds.length H :=
  ⟨fun i d e => by
    obtain ⟨v, h1, h2⟩ := r.get e
    exact ⟨⟨vs, v, SqL.of h, h1⟩, fun x H' ⟨e1, e2⟩ => by
      subst e1
      have e3 := e2 vs (SqL.of h)
      rw [h1] at e3; cases e3
      exact ⟨F, .refl s, h2⟩⟩, ⟨vs, SqL.of h, by rw [r.length]; exact Nat.le_refl _⟩⟩
theorem wk_tup {a : Addr} {vs : List V} {F H : Hp} (s : Sub F H) (h : H a = some (.tup vs)) (r : RpAll F vs ds) :
    (∀ i d, ds[i]? = some d → (Itt K a).go i H ∧ ∀ x H', (Itt K a).yld i H x H' → ∃ F', Grow [] F H F' H' ∧ Rp F' x d) ∧ (Itt K a).stop ds.length H :=
  ⟨fun i d e => by
    obtain ⟨v, h1, h2⟩ := r.get e
    exact ⟨⟨vs, v, SqT.of h, h1⟩, fun x H' ⟨e1, e2⟩ => by
      subst e1
      have e3 := e2 vs (SqT.of h)
      rw [h1] at e3; cases e3
      exact ⟨F, .refl s, h2⟩⟩, ⟨vs, SqT.of h, by rw [r.length]; exact Nat.le_refl _⟩⟩
theorem ih_seq (h : RdS te Γ ds) : IterH (iSeq K te) Γ ds := fun C B F H σ w g R r => h C B F H σ w g _ fun v F1 H1 g1 ⟨p, vs, e, l, ra⟩ => by
  subst e
  refine ⟨p, rfl, ?_⟩
  rcases l with l | l
  · exact .inl ⟨⟨vs, SqL.of l⟩, r _ F1 H1 g1 fun F2 H2 g2 => wk_list g2.fh (g2.sub _ _ l) (ra.mono g2.ff)⟩
  · exact .inr ⟨⟨vs, SqT.of l⟩, r _ F1 H1 g1 fun F2 H2 g2 => wk_tup g2.fh (g2.sub _ _ l) (ra.mono g2.ff)⟩
theorem if_lst (h : EvD te Γ (.list ds)) : IterF (iSeq K te) Γ ds := fun C B F H σ w g R r => h C B F H σ w g _ fun v F1 H1 g1 r1 => by
  obtain ⟨p, vs, rfl, l, ra⟩ := Rp.lst_inv r1
  exact ⟨p, rfl, .inl ⟨⟨vs, SqL.of (g1.fh _ _ l)⟩, r _ F1 H1 g1 fun F2 H2 s1 s2 => wk_list s2 (s2 _ _ (s1 _ _ l)) (ra.mono s1)⟩⟩
theorem if_tup (h : EvD te Γ (.tuple ds)) : IterF (iSeq K te) Γ ds := fun C B F H σ w g R r => h C B F H σ w g _ fun v F1 H1 g1 r1 => by
  obtain ⟨p, vs, rfl, l, ra⟩ := Rp.tup_inv r1
  exact ⟨p, rfl, .inr ⟨⟨vs, SqT.of (g1.fh _ _ l)⟩, r _ F1 H1 g1 fun F2 H2 s1 s2 => wk_tup s2 (s2 _ _ (s1 _ _ l)) (ra.mono s1)⟩⟩
/-- range(n) -/
theorem if_rng1 {n : Int} (h : EvA ts Γ [.int n]) (h1 : -(2 ^ 62) ≤ n) (h2 : n < 2 ^ 62) : IterF (iRng1 ts) Γ ((List.range n.toNat).map fun i : Nat => .int i) := fun C B F H σ w g R r => h C B F H σ w g _ fun vs F1 H1 g1 r1 => by
  cases r1 with
  | cons r1 r2 =>
    cases r2
    rw [r1.int_inv]
    refine ⟨n, rfl, h1, h2, r _ F1 H1 g1 fun F2 H2 s1 s2 => ⟨fun i d e => ?_, ?_⟩⟩
    · rw [List.getElem?_map] at e
      by_cases hi : i < n.toNat
      · rw [List.getElem?_range hi] at e
        cases e
        exact ⟨hi, fun x H' ⟨e1, e2⟩ => by subst e1 e2; rw [Int.zero_add]; exact ⟨F2, .refl s2, .int _⟩⟩
      · rw [List.getElem?_eq_none (by simpa using hi)] at e; cases e
    · show n.toNat ≤ _
      simp
theorem if_rngN {n : Nat} (h : EvD ta Γ (.int (n : Int))) (h2 : n ≤ 100000) : IterF (iRng1 (tCons ta tNil)) Γ ((List.range n).map fun i : Nat => .int i) := if_rng1 (ea_cons h ea_nil) (by omega) (by omega)
theorem if_rng2 {i j : Int} (h : EvA ts Γ [.int i, .int j]) (h1 : -(2 ^ 62) ≤ i) (h2 : i < 2 ^ 62) (h3 : -(2 ^ 62) ≤ j) (h4 : j < 2 ^ 62) : IterF (iRng2 ts) Γ ((List.range (j - i).toNat).map fun k : Nat => .int (i + k)) := fun C B F H σ w g R r => h C B F H σ w g _ fun vs F1 H1 g1 r1 => by
  cases r1 with
  | cons r1 r2 =>
    cases r2 with
    | cons r2 r3 =>
      cases r3
      rw [r1.int_inv, r2.int_inv]
      refine ⟨i, j, rfl, ⟨h1, h2, h3, h4⟩, r _ F1 H1 g1 fun F2 H2 s1 s2 => ⟨fun k d e => ?_, ?_⟩⟩
      · rw [List.getElem?_map] at e
        by_cases hi : k < (j - i).toNat
        · rw [List.getElem?_range hi] at e
          cases e
          exact ⟨hi, fun x H' ⟨e1, e2⟩ => by subst e1 e2; exact ⟨F2, .refl s2, .int _⟩⟩
        · rw [List.getElem?_eq_none (by simpa using hi)] at e; cases e
      · show (j - i).toNat ≤ _
        simp

/-! ### targets -/
def TgD (g : TG) (vs : List Nat) (Γ : List Sl) (d : PyData) (Γ' : List Sl) : Prop :=
  ∀ (C : Pc) (B F H : Hp) (σ : L2.St) (x : V), Sub F H → Gm C B F H σ Γ → Rp F x d → ∀ Q : L2.St → Hp → Prop, (∀ σ', Gm C B F H σ' Γ' → L2.wipe σ' vs = L2.wipe σ vs → Q σ' H) → g x σ H Q
theorem wipe_get (σ : L2.St) : ∀ (vs : List Nat) (j : Nat), (L2.wipe σ vs)[j]? = if j ∈ vs then (if j < σ.length then some none else none) else σ[j]?
  | [], j => by simp [L2.wipe]
  | v :: vs, j => by
    unfold L2.wipe
    rw [List.getElem?_set, L2.wipe_length, wipe_get σ vs j]
    by_cases h : v = j
    · subst h; simp
    · simp [h, Ne.symm h]
theorem wipe_set {σ : L2.St} {vs : List Nat} {i : Nat} {x : Option V} (h : i ∈ vs) : L2.wipe (σ.set i x) vs = L2.wipe σ vs := by
  apply List.ext_getElem?
  intro j
  rw [wipe_get, wipe_get, List.length_set]
  by_cases hj : j ∈ vs
  · rw [if_pos hj, if_pos hj]
  · rw [if_neg hj, if_neg hj, List.getElem?_set_ne (fun e : i = j => hj (e ▸ h))]
theorem wipe_wipe (σ : L2.St) (vs : List Nat) : L2.wipe (L2.wipe σ vs) vs = L2.wipe σ vs := by
  apply List.ext_getElem?
  intro j
  rw [wipe_get, L2.wipe_length, wipe_get]
  by_cases hj : j ∈ vs
  · rw [if_pos hj, if_pos hj]
  · rw [if_neg hj, if_neg hj]
theorem tg_name {i : Nat} {vs : List Nat} (h : i ∈ vs) : TgD (gName i) vs Γ d (Γ.set i (.dat d)) := fun C B F H σ x s g r Q q => q _ (g.dat r) (wipe_set h)
theorem tg_pair {i j : Nat} {vs : List Nat} (h1 : i ∈ vs) (h2 : j ∈ vs) : TgD (gTup K 2 (gCons (gName i) (gCons (gName j) gNil))) vs Γ (.tuple [x, y]) ((Γ.set i (.dat x)).set j (.dat y)) := fun C B F H σ z s g r Q q => by
  obtain ⟨a, xs, rfl, f, ra⟩ := Rp.tup_inv r
  cases ra with
  | cons r1 ra =>
    cases ra with
    | cons r2 ra =>
      cases ra
      refine ⟨a, _, rfl, SqT.of (s _ _ f), rfl, _, _, rfl, _, _, rfl, rfl, ?_⟩
      exact q _ ((g.dat r1).dat r2) (by rw [wipe_set h2, wipe_set h1])

/-! ### comprehensions -/
theorem en_lc {α : Type} {xs : List α} {enc f : α → PyData} {p : α → Bool} {wi : TI} {g : TG} {tt : TT} {vs : List Nat} {Γx : α → List Sl}
    (hi : IterH wi Γ (xs.map enc)) (hz : xs.length ≤ 100000) (hg : ∀ x ∈ xs, TgD g vs (wipeG Γ vs) (enc x) (Γx x))
    (ht : ∀ x ∈ xs, EvT tt (Γx x) (p x)) (he : ∀ x ∈ xs, p x = true → EvD te (Γx x) (f x)) : EvN (tLc wi g tt te vs) Γ ((xs.filter p).map f) := fun C B F H σ w gm Q q =>
  hi C B F H σ w gm _ fun J F1 H1 g1 wk D hD => by
    have w1 := w.grow g1
    have e1 := gm.grow g1.weak
    refine ⟨fun i m H' => i + m = xs.length ∧ ∃ F' acc, Grow [] F1 H1 F' H' ∧ F' D = none ∧ H' D = some (.lst acc) ∧ RpAll F' acc (((xs.take i).filter p).map f),
      ⟨xs.length, by omega, F1, [], .newM g1.fh hD, g1.fh.none hD, upd_same, .nil⟩, fun i m H' ⟨hm, F', acc, g2, hF, hH, ra⟩ => ?_⟩
    by_cases hlt : i < xs.length
    · refine .inr ?_
      obtain ⟨x, hx⟩ : ∃ x, xs[i]? = some x := ⟨_, List.getElem?_eq_getElem hlt⟩
      have hmem : x ∈ xs := List.mem_of_getElem? hx
      have htk : xs.take (i + 1) = xs.take i ++ [x] := by rw [List.take_add_one, hx]; rfl
      obtain ⟨go, yl⟩ := (wk F' H' g2).1 i (enc x) (by rw [List.getElem?_map, hx]; rfl)
      refine ⟨go, fun H'' => ∃ F'' acc, Grow [] F1 H1 F'' H'' ∧ F'' D = none ∧ H'' D = some (.lst acc) ∧ RpAll F'' acc (((xs.take (i + 1)).filter p).map f), fun H'' h'' => ⟨m - 1, by omega, by omega, h''⟩, fun v H'' y => ?_⟩
      obtain ⟨F'', g3, rv⟩ := yl v H'' y
      have nD : D ∉ ([] : List Addr) := by simp
      have g23 := g2.trans g3
      have dF : F'' D = none := g3.nw D (by rw [hH]; exact fun z => nomatch z) hF
      refine hg x hmem C B F'' H'' (L2.wipe σ vs) v g3.fh ((e1.grow g23.weak).wipe vs) rv _ fun σ' e2 hw => ⟨hw.trans (wipe_wipe σ vs), ?_⟩
      refine ht x hmem C B F'' H'' σ' (w1.grow g23) e2 _ fun F3 H3 g4 => ?_
      have d3 : H3 D = some (.lst acc) := g4.sub _ _ (g3.sub _ _ hH)
      have f3 : F3 D = none := g4.nw D (by rw [g3.sub _ _ hH]; exact fun z => nomatch z) dF
      cases hp : p x with
      | true =>
        rw [if_pos rfl]
        refine he x hmem hp C B F3 H3 σ' ((w1.grow g23).grow g4) (e2.grow g4.weak) _ fun u F4 H4 g5 ru => ?_
        have gg := (g23.trans g4).trans g5
        refine ⟨acc, g5.sub _ _ d3, ?_, F4, acc ++ [u], ?_, g5.nw D (by rw [d3]; exact fun z => nomatch z) f3, upd_same, ?_⟩
        · rw [ra.length, List.length_map]
          exact Nat.lt_of_le_of_lt (Nat.le_trans (List.length_filter_le _ _) (by rw [List.length_take]; exact Nat.le_trans (Nat.min_le_right _ _) hz)) (by decide)
        · exact ⟨gg.ff, fun a o e => by
            have z : a ≠ D := fun z => by subst z; rw [g5.nw a (by rw [d3]; exact fun z => nomatch z) f3] at e; cases e
            rw [upd_ne z]; exact gg.fh a o e, fun a o n e => by
            have z : a ≠ D := fun z => by subst z; rw [hD] at e; cases e
            rw [upd_ne z]; exact gg.hh a o n e, fun a e => upd_th (gg.th a e), gg.nw⟩
        · rw [htk, List.filter_append, List.map_append, show ([x].filter p) = [x] by simp [hp]]
          exact (((ra.mono g3.ff).mono g4.ff).mono g5.ff).append (.one ru)
      | false =>
        rw [if_neg Bool.false_ne_true]
        refine ⟨F3, acc, g23.trans g4, f3, d3, ?_⟩
        rw [htk, List.filter_append, show ([x].filter p) = [] by simp [hp], List.append_nil]
        exact (ra.mono g3.ff).mono g4.ff
    · refine .inl ?_
      have ei : i = xs.length := by omega
      subst ei
      refine ⟨by have z := (wk F' H' g2).2; rw [List.length_map] at z; exact z, ?_⟩
      rw [List.take_length] at ra
      exact q _ F' H' (g1.trans g2) ⟨D, acc, rfl, g1.fresh hD, hF, hH, ra⟩
/-- without a test -/
theorem en_lcM {α : Type} {xs : List α} {enc f : α → PyData} {wi : TI} {g : TG} {vs : List Nat} {Γx : α → List Sl}
    (hi : IterH wi Γ (xs.map enc)) (hz : xs.length ≤ 100000) (hg : ∀ x ∈ xs, TgD g vs (wipeG Γ vs) (enc x) (Γx x))
    (he : ∀ x ∈ xs, EvD te (Γx x) (f x)) : EvN (tLc wi g tYes te vs) Γ (xs.map f) :=
  (en_lc (p := fun _ => true) hi hz hg (fun _ _ => et_yes) fun x hx _ => he x hx).is (by rw [List.filter_eq_self.mpr fun _ _ => rfl])
end
end Eh

namespace Eh
open PySem PySem.Spec PyProof.Rows L2

/-! ### statements: from the slots Γ -/
def At (C : Pc) (B F0 : Hp) (Γ : List Sl) (P : L2.St → Hp → Prop) : Prop := ∀ F H σ, Wd C F H → Grow C.S F0 B F H → Gm C B F H σ Γ → P σ H
/-- what the end wants of a value handed back; of a new list; of an error; of the body's end -/
def RetOk (C : Pc) (B F0 : Hp) (D : Ends) (R : PyData → Prop) : Prop := ∀ F H v d, Wd C F H → Grow C.S F0 B F H → R d → Rp F v d → D.rt v H
def RetN (C : Pc) (B F0 : Hp) (D : Ends) (R : List PyData → Prop) : Prop := ∀ F H p us es, Wd C F H → Grow C.S F0 B F H → B p = none → F p = none → p ∉ C.S → H p = some (.lst us) → RpAll F us es → R es → D.rt (.ref p) H
def RaiseOk (C : Pc) (B F0 : Hp) (E : XK) (R : Addr → Option (List (Str × V)) → Prop) : Prop := ∀ F H cv dd c f, Wd C F H → Grow C.S F0 B F H → R c f → XcOk c f cv dd H → E cv dd H
section
variable {C : Pc} {B F0 : Hp} {Γ Γ' : List Sl} {D : Ends} {te ta tb : TE} {t u : TS} {tt : TT} {d x y : PyData} {ds es : List PyData} {i j : Nat} {K : PySem.W.Frag} {R : PyData → Prop} {RN : List PyData → Prop} {RX : Addr → Option (List (Str × V)) → Prop} {E : XK} {P : L2.St → Hp → Prop}
theorem at_asg (h : EvD te Γ d) (k : At C B F0 (Γ.set i (.dat d)) D.nx) : At C B F0 Γ (tAsg te (gName i) D) := fun F H σ w g e =>
  h C B F H σ w e _ fun v F1 H1 g1 r => k F1 H1 _ (w.grow g1) (g.trans g1.weak) ((e.grow g1.weak).dat r)
theorem Grow.th_none {S : List Addr} {F H F' H' : Hp} {p : Addr} (a : Grow S F H F' H') (h : H' p = none) : H p = none := a.fresh h
theorem at_asgN (h : EvN te Γ ds) (k : At C B F0 (Γ.set i (.own ds)) D.nx) : At C B F0 Γ (tAsg te (gName i) D) := fun F H σ w g e =>
  h C B F H σ w e _ fun v F1 H1 g1 ⟨p, vs, ev, hn, hf, hl, r⟩ => by
    subst ev
    have hs : p ∉ C.S := fun z => w.sH p z hn
    refine k F1 H1 _ (w.grow g1) (g.trans g1.weak) ((e.grow g1.weak).set ⟨p, vs, rfl, hl, hf, g.fresh hn, hs, r⟩ fun ds' _ j es q eq h1 h2 => ?_)
    cases eq
    obtain ⟨q, us, e1, h3, _⟩ := e.ok j _ h1
    rw [h2] at e1; cases e1
    rw [hn] at h3; cases h3
theorem at_seq (h : At C B F0 Γ (t { D with nx := u D })) : At C B F0 Γ (tSeq t u D) := h
theorem at_next (h : At C B F0 Γ D.nx) : At C B F0 Γ (tNext D) := h
theorem at_brk (h : At C B F0 Γ D.bk) : At C B F0 Γ (tBreak D) := h
theorem at_cont (h : At C B F0 Γ D.ct) : At C B F0 Γ (tCont D) := h
theorem at_ret (hr : RetOk C B F0 D R) (h : EvD te Γ d) (hd : R d) : At C B F0 Γ (tRet te D) := fun F H σ w g e =>
  h C B F H σ w e _ fun v F1 H1 g1 r => hr F1 H1 v d (w.grow g1) (g.trans g1.weak) hd r
theorem at_retN (hr : RetN C B F0 D RN) (h : EvN te Γ ds) (hd : RN ds) : At C B F0 Γ (tRet te D) := fun F H σ w g e =>
  h C B F H σ w e _ fun v F1 H1 g1 ⟨p, vs, ev, hn, hf, hl, r⟩ => by
    subst ev
    exact hr F1 H1 p vs ds (w.grow g1) (g.trans g1.weak) (g.fresh hn) hf (fun z => w.sH p z hn) hl r hd
/-- an own list is handed back -/
theorem at_retO (hr : RetN C B F0 D RN) (h : Γ[i]? = some (.own ds)) (hd : RN ds) : At C B F0 Γ (tRet (tVar i) D) := fun F H σ w g e => by
  obtain ⟨p, vs, e1, hl, hf, hb, hs, r⟩ := e.ok i _ h
  exact ⟨_, e1, hr F H p vs ds w g hb hf hs hl r hd⟩
/-- an own list stands for good from here -/
theorem at_frz (i : Nat) (h : Γ[i]? = some (.own ds)) (k : At C B F0 (Γ.set i (.dat (.list ds))) P) : At C B F0 Γ P := fun F H σ w g e => by
  obtain ⟨p, vs, e1, hl, hf, hb, hs, r⟩ := e.ok i _ h
  have il : i < Γ.length := (List.getElem?_eq_some_iff.mp h).1
  have sF : Sub F (upd F p (.lst vs)) := Sub.new hf
  refine k (upd F p (.lst vs)) H σ (w.freeze hs hl hf) (g.freeze hb hl hf) ⟨by rw [List.length_set, e.len], fun j t ej => ?_, fun j m ds' es' q e2 e3 e4 e5 => ?_⟩
  · rw [List.getElem?_set] at ej
    by_cases hj : i = j
    · subst hj
      rw [if_pos rfl, if_pos il] at ej
      cases ej
      exact ⟨_, e1, .lst upd_same (r.mono sF)⟩
    · rw [if_neg hj] at ej
      have k1 := e.ok j t ej
      cases t with
      | no => trivial
      | dat d => obtain ⟨v, a1, a2⟩ := k1; exact ⟨v, a1, a2.mono sF⟩
      | own fs =>
        obtain ⟨q, us, a1, a2, a3, a4, a5, a6⟩ := k1
        have nq : q ≠ p := fun z => hj (e.inj i j ds fs p h ej e1 (z ▸ a1))
        exact ⟨q, us, a1, a2, by rw [upd_ne nq]; exact a3, a4, a5, a6.mono sF⟩
      | dct kvs =>
        obtain ⟨q, a1, a2, a3, a4, a5⟩ := k1
        have nq : q ≠ p := fun z => by rw [z, hl] at a2; cases a2
        exact ⟨q, a1, a2, by rw [upd_ne nq]; exact a3, a4, a5⟩
      | pool => exact k1
      | fz K a xs => exact k1
      | ref a => exact k1
  · have ne : ∀ (m : Nat) (xs : List PyData), (Γ.set i (.dat (.list ds)))[m]? = some (Sl.own xs) → Γ[m]? = some (Sl.own xs) := fun m xs z => by
      rw [List.getElem?_set] at z
      by_cases hm : i = m
      · subst hm; rw [if_pos rfl, if_pos il] at z; cases z
      · rw [if_neg hm] at z; exact z
    exact e.inj j m ds' es' q (ne j ds' e2) (ne m es' e3) e4 e5
theorem at_if {b : Bool} (h : EvT tt Γ b) (h1 : b = true → At C B F0 Γ (t D)) (h2 : b = false → At C B F0 Γ (u D)) : At C B F0 Γ (tIfS tt t u D) := fun F H σ w g e =>
  h C B F H σ w e _ fun F1 H1 g1 => by
    cases b with
    | true =>
      show t D σ H1
      exact h1 rfl F1 H1 σ (w.grow g1) (g.trans g1.weak) (e.grow g1.weak)
    | false =>
      show u D σ H1
      exact h2 rfl F1 H1 σ (w.grow g1) (g.trans g1.weak) (e.grow g1.weak)
theorem at_ifT (h : EvT tt Γ true) (h1 : At C B F0 Γ (t D)) : At C B F0 Γ (tIfS tt t u D) := at_if h (fun _ => h1) fun z => nomatch z
theorem at_ifF (h : EvT tt Γ false) (h1 : At C B F0 Γ (u D)) : At C B F0 Γ (tIfS tt t u D) := at_if h (fun z => nomatch z) fun _ => h1
theorem at_drop (h : EvD te Γ d) (k : At C B F0 Γ D.nx) : At C B F0 Γ (tDrop te D) := fun F H σ w g e =>
  h C B F H σ w e _ fun v F1 H1 g1 r => k F1 H1 _ (w.grow g1) (g.trans g1.weak) (e.grow g1.weak)
/-- an error -/
theorem at_asgX {c : Addr} {f : Option (List (Str × V))} {gg : TG} (hr : RaiseOk C B F0 E RX) (h : EvX te Γ E c f) (hx : RX c f) : At C B F0 Γ (tAsg te gg D) := fun F H σ w g e =>
  h C B F H σ w e _ fun cv dd F1 H1 g1 x => hr F1 H1 cv dd c f (w.grow g1) (g.trans g1.weak) hx x
theorem at_dropX {c : Addr} {f : Option (List (Str × V))} (hr : RaiseOk C B F0 E RX) (h : EvX te Γ E c f) (hx : RX c f) : At C B F0 Γ (tDrop te D) := fun F H σ w g e =>
  h C B F H σ w e _ fun cv dd F1 H1 g1 x => hr F1 H1 cv dd c f (w.grow g1) (g.trans g1.weak) hx x
theorem at_retX {c : Addr} {f : Option (List (Str × V))} (hr : RaiseOk C B F0 E RX) (h : EvX te Γ E c f) (hx : RX c f) : At C B F0 Γ (tRet te D) := fun F H σ w g e =>
  h C B F H σ w e _ fun cv dd F1 H1 g1 x => hr F1 H1 cv dd c f (w.grow g1) (g.trans g1.weak) hx x
/-- raise C('..') -/
def tRaiseC (E : XK) (c : Addr) : TS := fun _ σ H => (fun cls d (_ : L2.St) H' => E cls d H') (.ref c) none σ H
theorem at_raise {c : Addr} (hr : RaiseOk C B F0 E RX) (hx : RX c none) : At C B F0 Γ (tRaiseC E c D) := fun F H σ w g e => hr F H (.ref c) none c none w g hx ⟨rfl, rfl⟩
/-- name += e, ints -/
theorem at_aug {a b : Int} {f : Int → Int → Int} (hx : Γ[i]? = some (.dat (.int a))) (h : EvD te Γ (.int b)) (k : At C B F0 (Γ.set i (.dat (.int (f a b)))) D.nx) : At C B F0 Γ (tAug i te (ipI f) D) := fun F H σ w g e => by
  obtain ⟨v, e1, r⟩ := e.get hx
  rw [r.int_inv] at e1
  exact ⟨_, e1, h C B F H σ w e _ fun v F1 H1 g1 r1 => ⟨a, b, rfl, r1.int_inv, k F1 H1 _ (w.grow g1) (g.trans g1.weak) ((e.grow g1.weak).dat (.int _))⟩⟩
/-- own.append(e) -/
theorem at_append (hx : Γ[i]? = some (.own ds)) (hz : ds.length < 100000) (h : EvD te Γ d) (k : At C B F0 (Γ.set i (.own (ds ++ [d]))) D.nx) :
    At C B F0 Γ (tDrop (tBM K "list" rAppend (tVar i) (tCons te tNil)) D) := fun F H σ w g e => by
  obtain ⟨p, vs, e1, hl, hf, hb, hs, r⟩ := e.ok i _ hx
  refine ⟨_, e1, .inl ⟨rfl, vs, SqL.of hl⟩, h C B F H σ w e _ fun v F1 H1 g1 rv => ?_⟩
  have hl1 := g1.sub _ _ hl
  have hf1 := g1.nw p (by rw [hl]; exact fun z => nomatch z) hf
  have g2 := g.trans g1.weak
  have e2 : Gm C B F1 H1 σ Γ := e.grow g1.weak
  exact ⟨p, vs, v, rfl, rfl, hl1, by rw [r.length]; exact size_lt hz, k F1 _ σ ((w.grow g1).mut hs hf1) (g2.mut hb hf1) (e2.mut hx e1 ((r.mono g1.ff).append (.one rv)))⟩
/-- own[i] = e -/
theorem at_setL {n : Int} {k : Nat} (hx : Γ[i]? = some (.own ds)) (h : EvD te Γ d) (hi : EvD tb Γ (.int n)) (hk : ixN ds.length n = some k) (kk : At C B F0 (Γ.set i (.own (ds.set k d))) D.nx) :
    At C B F0 Γ (tAsg te (gSub (tVar i) tb rSetL) D) := fun F H σ w g e => by
  obtain ⟨p, vs, e1, hl, hf, hb, hs, r⟩ := e.ok i _ hx
  refine h C B F H σ w e _ fun v F1 H1 g1 rv => ⟨_, e1, hi C B F1 H1 σ (w.grow g1) (e.grow g1.weak) _ fun u F2 H2 g2 ru => ?_⟩
  rw [Rp.int_inv ru]
  have g12 := g1.trans g2
  have hl1 := g12.sub _ _ hl
  have hf1 := g12.nw p (by rw [hl]; exact fun z => nomatch z) hf
  have gg := g.trans (S := C.S) g12.weak
  have e2 : Gm C B F2 H2 σ Γ := e.grow g12.weak
  exact ⟨p, vs, n, k, rfl, rfl, hl1, by rw [r.length]; exact hk, kk F2 _ σ ((w.grow g12).mut hs hf1) (gg.mut hb hf1) (e2.mut hx e1 ((r.mono g12.ff).set k (rv.mono g2.ff)))⟩
/-- own.extend(e) -/
theorem at_extend (hx : Γ[i]? = some (.own ds)) (h : EvN te Γ es) (hz : ds.length + es.length ≤ 100000) (k : At C B F0 (Γ.set i (.own (ds ++ es))) D.nx) :
    At C B F0 Γ (tDrop (tBM K "list" rExtend (tVar i) (tCons te tNil)) D) := fun F H σ w g e => by
  obtain ⟨p, vs, e1, hl, hf, hb, hs, r⟩ := e.ok i _ hx
  refine ⟨_, e1, .inl ⟨rfl, vs, SqL.of hl⟩, h C B F H σ w e _ fun v F1 H1 g1 ⟨b, us, eb, _, _, hlb, rb⟩ => ?_⟩
  subst eb
  have hl1 := g1.sub _ _ hl
  have hf1 := g1.nw p (by rw [hl]; exact fun z => nomatch z) hf
  have g2 := g.trans (S := C.S) g1.weak
  have e2 : Gm C B F1 H1 σ Γ := e.grow g1.weak
  exact ⟨p, b, vs, us, rfl, rfl, hl1, hlb, by rw [r.length, rb.length]; exact size_ok hz, k F1 _ σ ((w.grow g1).mut hs hf1) (g2.mut hb hf1) (e2.mut hx e1 ((r.mono g1.ff).append rb))⟩
theorem At.chain {F1 H1 : Hp} (a : Grow C.S F0 B F1 H1) (h : At C B F0 Γ P) : At C B F1 Γ P := fun F H σ w g e => h F H σ w (a.chain g) e
theorem RetOk.chain {F1 H1 : Hp} (a : Grow C.S F0 B F1 H1) (h : RetOk C B F0 D R) : RetOk C B F1 D R := fun F H v d w g => h F H v d w (a.chain g)
theorem RetN.chain {F1 H1 : Hp} (a : Grow C.S F0 B F1 H1) (h : RetN C B F0 D RN) : RetN C B F1 D RN := fun F H p us es w g => h F H p us es w (a.chain g)
theorem RaiseOk.chain {F1 H1 : Hp} (a : Grow C.S F0 B F1 H1) (h : RaiseOk C B F0 E RX) : RaiseOk C B F1 E RX := fun F H cv dd c f w g => h F H cv dd c f w (a.chain g)
/-- for target in what stands for good: Γi i the slots ahead of turn i -/
theorem at_for {α : Type} {xs : List α} {enc : α → PyData} {wi : TI} {g : TG} {vs : List Nat} (Γi : Nat → List Sl) (Γx : Nat → α → List Sl) (hi : IterF wi (Γi 0) (xs.map enc))
    (hg : ∀ i x, xs[i]? = some x → TgD g vs (Γi i) (enc x) (Γx i x))
    (hb : ∀ i x, xs[i]? = some x → ∀ F1 H1, Grow C.S F0 B F1 H1 → ∀ D' : Ends, D'.rt = D.rt → At C B F1 (Γi (i + 1)) D'.nx → At C B F1 (Γi (i + 1)) D'.ct → D'.bk = D.nx → At C B F1 (Γx i x) (t D'))
    (hd : At C B F0 (Γi xs.length) D.nx) : At C B F0 (Γi 0) (tFor wi g t D) := fun F H σ w gr e =>
  hi C B F H σ w e _ fun J F1 H1 g1 wk => by
    have gb : Grow C.S F0 B F1 H1 := gr.trans g1.weak
    refine ⟨fun i m σ' H' => i + m = xs.length ∧ ∃ F', Wd C F' H' ∧ Grow C.S F1 B F' H' ∧ Gm C B F' H' σ' (Γi i), ⟨xs.length, by omega, F1, w.grow g1, gb.start, e.grow g1.weak⟩, fun i m σ' H' ⟨hm, F', w2, g2, e2⟩ => ?_⟩
    by_cases hlt : i < xs.length
    · refine .inr ?_
      obtain ⟨x, hx⟩ : ∃ x, xs[i]? = some x := ⟨_, List.getElem?_eq_getElem hlt⟩
      obtain ⟨go, yl⟩ := (wk F' H' g2.ff g2.fh).1 i (enc x) (by rw [List.getElem?_map, hx]; rfl)
      refine ⟨go, fun σ'' H'' => ∃ F'', Wd C F'' H'' ∧ Grow C.S F1 B F'' H'' ∧ Gm C B F'' H'' σ'' (Γi (i + 1)), fun σ'' H'' h'' => ⟨m - 1, by omega, by omega, h''⟩, fun v H'' y => ?_⟩
      obtain ⟨F'', g3, rv⟩ := yl v H'' y
      refine hg i x hx C B F'' H'' σ' v g3.fh (e2.grow g3.weak) rv _ fun σ3 e3 _ => ?_
      exact hb i x hx F1 H1 gb { D with nx := fun σ'' H'' => ∃ F'', Wd C F'' H'' ∧ Grow C.S F1 B F'' H'' ∧ Gm C B F'' H'' σ'' (Γi (i + 1)), ct := fun σ'' H'' => ∃ F'', Wd C F'' H'' ∧ Grow C.S F1 B F'' H'' ∧ Gm C B F'' H'' σ'' (Γi (i + 1)), bk := D.nx } rfl
        (fun F H σ w g e => ⟨F, w, g, e⟩) (fun F H σ w g e => ⟨F, w, g, e⟩) rfl F'' H'' σ3 (w2.grow g3) (g2.trans g3.weak) e3
    · refine .inl ?_
      have ei : i = xs.length := by omega
      subst ei
      exact ⟨by have z := (wk F' H' g2.ff g2.fh).2; rw [List.length_map] at z; exact z, hd F' H' σ' w2 (gb.chain g2) e2⟩
/-- while: by states s of a type of one's own, a measure -/
theorem at_while {σT : Type} {tc : TT} (Γs : σT → List Sl) (b : σT → Bool) (next : σT → σT) (μ : σT → Nat) (I : σT → Prop) (s0 : σT) (h0 : I s0)
    (hc : ∀ s, I s → EvT tc (Γs s) (b s))
    (hb : ∀ s, I s → b s = true → ∀ F1 H1, Grow C.S F0 B F1 H1 → ∀ D' : Ends, D'.rt = D.rt → (∀ s', I s' → μ s' < μ s → At C B F1 (Γs s') D'.nx) → (∀ s', I s' → μ s' < μ s → At C B F1 (Γs s') D'.ct) → D'.bk = D.nx → At C B F1 (Γs s) (t D'))
    (hd : ∀ s, I s → b s = false → At C B F0 (Γs s) D.nx) : At C B F0 (Γs s0) (tWhile tc t D) := fun F H σ w gr e => by
  refine ⟨fun m σ' H' => ∃ s, m = μ s ∧ I s ∧ ∃ F', Wd C F' H' ∧ Grow C.S F0 B F' H' ∧ Gm C B F' H' σ' (Γs s), ⟨_, s0, rfl, h0, F, w, gr, e⟩, fun m σ' H' ⟨s, hm, hI, F', w2, g2, e2⟩ => ?_⟩
  subst hm
  refine hc s hI C B F' H' σ' w2 e2 _ fun F3 H3 g3 => ?_
  cases hbs : b s with
  | true =>
    rw [if_pos rfl]
    refine ⟨fun σ'' H'' => ∃ s', μ s' < μ s ∧ I s' ∧ ∃ F'', Wd C F'' H'' ∧ Grow C.S F0 B F'' H'' ∧ Gm C B F'' H'' σ'' (Γs s'), fun σ'' H'' ⟨s', hl, hI', k⟩ => ⟨μ s', hl, s', rfl, hI', k⟩, ?_⟩
    have gb := g2.trans (S := C.S) g3.weak
    exact hb s hI hbs F0 H3 ⟨Sub.refl _, fun a o h => gb.fh a o (gb.ff a o h), gb.hh, gb.th, fun _ _ n => n⟩ { D with nx := _, ct := _, bk := D.nx } rfl (fun s' hI' hl F H σ w g e => ⟨s', hl, hI', F, w, g, e⟩) (fun s' hI' hl F H σ w g e => ⟨s', hl, hI', F, w, g, e⟩) rfl F3 H3 σ' (w2.grow g3) gb (e2.grow g3.weak)
  | false =>
    rw [if_neg Bool.false_ne_true]
    exact hd s hI hbs F3 H3 σ' (w2.grow g3) (g2.trans g3.weak) (e2.grow g3.weak)
end

/-! ### a def's body from its promise -/
def startG (n : Nat) (ds : List PyData) : List Sl := ds.map .dat ++ List.replicate (n - ds.length) .no
theorem start_gm {F H : Hp} {vs : List V} {ds : List PyData} {N : List Str} (r : RpAll F vs ds) : Gm pc0 H F H (L2.start N vs) (startG N.length ds) := by
  have hl := r.length
  refine ⟨by unfold L2.start startG; simp [hl], fun i s e => ?_, fun i j ds' es p e1 _ _ _ => ?_⟩
  · unfold startG at e
    by_cases hi : i < ds.length
    · rw [List.getElem?_append_left (by simpa using hi), List.getElem?_map, List.getElem?_eq_getElem hi] at e
      cases e
      obtain ⟨v, h1, h2⟩ := r.get (List.getElem?_eq_getElem hi)
      refine ⟨v, ?_, h2⟩
      unfold L2.start
      rw [List.getElem?_append_left (by simpa [hl] using hi), List.getElem?_map, h1]
      rfl
    · rw [List.getElem?_append_right (by simpa using hi), List.getElem?_replicate] at e
      split at e
      · cases e; trivial
      · cases e
  · exfalso
    unfold startG at e1
    by_cases hi : i < ds.length
    · rw [List.getElem?_append_left (by simpa using hi), List.getElem?_map, List.getElem?_eq_getElem hi] at e1
      cases e1
    · rw [List.getElem?_append_right (by simpa using hi), List.getElem?_replicate] at e1
      split at e1 <;> cases e1
theorem spR_body {R : List PyData → Out → Prop} {N : List Str} {t : XK → TS} {vs : List V} {H : Hp} {Q : VK} {E : XK} (h : spR R vs H Q E)
    (hb : ∀ ds o, R ds o → ∀ (B F0 : Hp) (D : Ends) (E : XK), RetOk pc0 B F0 D (fun d => o = .ok d) → RaiseOk pc0 B F0 E (fun c f => o = .err c f) → (o = .ok .none → ∀ Γ, At pc0 B F0 Γ D.nx) → At pc0 B F0 (startG N.length ds) (t E D)) :
    t E { nx := fun _ H' => Q .non H', rt := Q } (L2.start N vs) H := by
  obtain ⟨F, ds, o, s, r, hR, hok, herr⟩ := h
  exact hb ds o hR H F { nx := fun _ H' => Q .non H', rt := Q } E (fun F1 H1 v d _ g e rd => hok d e v F1 H1 g rd) (fun F1 H1 cv dd c f _ g e x => herr c f e cv dd F1 H1 g x)
    (fun e Γ F1 H1 σ _ g _ => hok .none e .non F1 H1 g .non) F H _ (wd0 s) (.refl s) (start_gm r)
theorem spN_body {R : List PyData → List PyData → Prop} {N : List Str} {t : TS} {vs : List V} {H : Hp} {Q : VK} {E : XK} (h : spN R vs H Q E)
    (hb : ∀ ds es, R ds es → ∀ (B F0 : Hp) (D : Ends), RetN pc0 B F0 D (fun x => x = es) → At pc0 B F0 (startG N.length ds) (t D)) :
    t { nx := fun _ H' => Q .non H', rt := Q } (L2.start N vs) H := by
  obtain ⟨F, ds, es, s, r, hR, hq⟩ := h
  exact hb ds es hR H F { nx := fun _ H' => Q .non H', rt := Q } (fun F1 H1 p us es' _ g hb hf _ hl ra e => by subst e; exact hq p us F1 H1 g hb hf hl ra) F H _ (wd0 s) (.refl s) (start_gm r)
end Eh

namespace Eh
open PySem PySem.Spec PyProof.Rows L2
/-! ### enumerate(x), x a list or a tuple -/
theorem meets_enum1B {v : Value} {o : Obj} {H : Heap → Prop} (B : Begins v o H) :
    Meets (Builtin.«enumerate.__new__» ⟨[.type "enumerate", v], []⟩) (fun _ R s => H s.heap ∧
      R (.ok (.ret (.ref (s.heap.push o).objs.size))) { s with heap := (s.heap.push o).push { cls := .type "enumerate", data := .fields #[.none, .bool false, .ref s.heap.objs.size, rawInt 0, .none, .none] } }) :=
  .of_wp fun prog w A R s h => by
    obtain ⟨hp, g, d, tk, os⟩ := s; obtain ⟨h1, h⟩ := h
    have hsub := sub_enumerate
    have q1 : ∀ {A' : Around} {E : Value → Shared → Prop} {Q : Value → Shared → Prop}, Q (.ref hp.objs.size) ⟨hp.push o, g, d, tk, os⟩ → wpAny (model prog w) A' (pyIter v) Q E ⟨hp, g, d, tk, os⟩ :=
      fun q => B.iter prog w _ _ ⟨hp, g, d, tk, os⟩ _ h1 q
    wp_walk using q1
    refine wpAny_stack_any fun st => wpAny_pure ?_
    split
    · rename_i c _ _ _ _ _
      cases (c == Value.type "enumerate")
      · wp_walk using q1
        exact ⟨_, rfl, h⟩
      · wp_walk using q1
        exact ⟨_, rfl, h⟩
    · wp_walk using q1
      exact ⟨_, rfl, h⟩
theorem enum1_begins {prog : Program} {w : World} {A : Around} {E : Value → Shared → Prop} {s : Shared} {v : Value} {o : Obj} {H : Heap → Prop} {Q : Value → Shared → Prop} (B : Begins v o H) (h1 : H s.heap)
    (h : ∀ h', IsEnum h' (s.heap.objs.size + 1) s.heap.objs.size 0 .none → h'.get? s.heap.objs.size = some o → h'.objs.size = s.heap.objs.size + 2 →
      (∀ b o, s.heap.get? b = some o → h'.get? b = some o) → Q (.ref (s.heap.objs.size + 1)) { s with heap := h' }) :
    wpAny (model prog w) A (call (.type "enumerate") [v]) Q E s := by
  refine callType_new F.called_enumerate (by decide) (F.typeCall_enumerate_1 _) (F.newCall_enumerate_1 _) (fun obj => F.args_object_init_2 obj _) F.entry_enumerate_new
    (meets_enum1B B) ⟨h1, ?_⟩
  have hz : (s.heap.push o).objs.size = s.heap.objs.size + 1 := Heap.size_push ..
  show _ ∧ _
  rw [hz]
  have he : IsEnum ((s.heap.push o).push { cls := .type "enumerate", data := .fields #[.none, .bool false, .ref s.heap.objs.size, rawInt 0, .none, .none] }) (s.heap.objs.size + 1) s.heap.objs.size 0 .none := by
    have := Heap.get?_push_size (s.heap.push o) (o := { cls := .type "enumerate", data := .fields #[.none, .bool false, .ref s.heap.objs.size, rawInt 0, .none, .none] }) rfl
    rw [hz] at this; exact this
  refine ⟨⟨_, he, rfl⟩, h _ he (Heap.get?_push_of_some _ (Heap.get?_push_size _ B.free)) (by rw [Heap.size_push, hz]) fun b o x => Heap.get?_push_of_some _ (Heap.get?_push_of_some _ x)⟩
/-- the tuple at a as it stands, each item in a new pair -/
def IteT (K : PySem.W.Frag) (a : Addr) : It :=
  ⟨fun i H => ∃ (xs : List V) (x : V), SqT K H a xs ∧ xs[i]? = some x, fun i H v H' => ∃ T x, v = .ref T ∧ H T = none ∧ H' = upd H T (.tup [.int (i : Nat), x]) ∧ ∀ xs, SqT K H a xs → xs[i]? = some x, fun i H => ∃ xs : List V, SqT K H a xs ∧ xs.length ≤ i⟩
theorem turn_enumT {P : Program} {w : World} {K : PySem.W.Frag} {elts : List Expr} {kk : Nat} {tpos : Pos} (a e it : Addr) :
    Turn P w K (.Tuple elts kk tpos) (IteT K a) [e, it] e (fun i h => (∃ old, IsEnum h e it ((i : Nat) : Int) old) ∧ h.IsTupleIter it a i ∧ e ≠ it) where
  mem := by simp
  obj := fun i h st b hb => by
    obtain ⟨⟨old, he⟩, ⟨o, ho, hc, hd⟩, _⟩ := st
    have e' : b = e ∨ b = it := by simpa using hb
    rcases e' with z | z
    · rw [z]; exact ⟨_, he, fun v q => nomatch q⟩
    · rw [z]; exact ⟨o, ho, fun v q => by rw [hd] at q; cases q⟩
  keep := fun i h h' st k => let ⟨⟨old, he⟩, hi, hne⟩ := st; ⟨⟨old, k e (by simp) _ he⟩, hi.at fun o q => k it (by simp) o q, hne⟩
  item := by
    intro X hP hw hK hc i pins s σ H E I hf st hg
    subst hP hw hK
    obtain ⟨⟨old, he⟩, hit, hne⟩ := st
    obtain ⟨xs, x, hq, hx⟩ := hg
    obtain ⟨its, rv, p, hz⟩ := I.tuple hq
    obtain ⟨u, hu, ru⟩ := rv.get hx
    have hel : e < s.heap.objs.size := Heap.lt_size he
    have hil : it < s.heap.objs.size := by obtain ⟨_, q, _⟩ := hit; exact Heap.lt_size q
    obtain ⟨f0, f1, f2, f3, f4, f5⟩ := hf it (by simp)
    obtain ⟨ot, hot, hct, hdt⟩ := id p
    have hai : a ≠ it := fun z => by
      obtain ⟨oi, hoi, hci, _⟩ := id hit
      subst z
      rw [hot] at hoi; cases hoi
      rw [hct] at hci; exact absurd (Value.type.inj hci) (by decide)
    have hae : a ≠ e := fun z => by
      subst z
      have he' : s.heap.get? a = some _ := he
      rw [hot] at he'; cases he'
      exact absurd (Value.type.inj hct) (by decide)
    have D := Draws.tuple (prog := X.prog) (w := X.w) (A := X.A.in1) (I.ok.hd hc) it a hai its.toArray
    have hlt : i < its.toArray.size := by
      have := (List.getElem?_eq_some_iff.mp hu).1
      simpa using this
    refine wpAny_pyNext_enum_itemC (c := (i : Int)) D he ⟨hit, (show s.heap.IsTuple a its.toArray from p)⟩ hlt hne (fun hm => ?_) fun x' h' tk hP' ho st' hT hsz hk => ?_
    · have e' : e = it ∨ e = a := by simpa using hm
      rcases e' with z | z
      · exact hne z
      · exact hae z.symm
    have ex : x' = u := by
      have e1 : its.toArray[i]? = some x' := hP'
      have e2 : its.toArray[i]? = some u := by simpa using hu
      rw [e1] at e2; exact Option.some.inj e2
    subst ex
    refine ⟨_, rfl, wpAny_letOwnedTupleGo_enum (s := { s with heap := h', toks := tk + 1 }) ho fun h'' he' sb => ?_⟩
    have hT2 : h''.get? s.heap.objs.size = some { cls := .type "tuple", data := .seq #[.int i tk, x'] } := (sb.2 _ (Nat.ne_of_gt hel)).trans hT
    have new : ObjOk X.prog X.w (upd H s.heap.objs.size (.tup [.int (i : Nat), x])) h'' s.heap.objs.size (.tup [.int (i : Nat), x]) :=
      ⟨by show 2 ≤ sizeLine; decide, [.int i tk, x'], .cons ⟨_, rfl⟩ (.cons ru .nil), ⟨_, hT2, rfl, _, rfl⟩⟩
    have I1 : Inv X pins σ (upd H s.heap.objs.size (.tup [.int (i : Nat), x])) { s with heap := h'', toks := tk + 1 } :=
      I.turnedNew (ch := [e, it]) (fun b ob hb q => (sb.2 b (fun z => hb (by simp [z]))).trans (hk b ob (fun z => hb (by simp [z])) (fun z => hb (by simp [z])) q)) hf (Nat.le_refl _) new
    refine ⟨.ref s.heap.objs.size, _, I1, rfl, ⟨_, x, rfl, I.hok.fresh (Nat.le_refl _), rfl, fun ys hy => by rw [I.tuple_inj hy hq]; exact hx⟩, ⟨⟨x', ?_⟩, st'.1.at fun o q => (sb.2 it (Ne.symm hne)).trans q, hne⟩, fun b hb => ?_⟩
    · have e1 : ((i + 1 : Nat) : Int) = (i : Int) + 1 := by omega
      rw [e1]; exact he'
    · have hb' : b < s.heap.objs.size := by
        have e' : b = e ∨ b = it := by simpa using hb
        rcases e' with z | z
        · rw [z]; exact hel
        · rw [z]; exact hil
      rw [upd_ne (Nat.ne_of_lt hb')]
      exact (hf b hb).1
  done := by
    intro X hP hw hK hc i pins s σ H E I hf st hg
    subst hP hw hK
    obtain ⟨⟨old, he⟩, hit, hne⟩ := st
    obtain ⟨xs, hq, hx⟩ := hg
    obtain ⟨its, rv, p, hz⟩ := I.tuple hq
    obtain ⟨f0, f1, f2, f3, f4, f5⟩ := hf it (by simp)
    have hl := rv.length
    have hT : s.TypeIs (.ref e) "enumerate" := ⟨_, he, rfl⟩
    unfold pyNext
    refine wpAny_bind (wpAny_attempt (wpAny_callSpecial?_slot (name := Str.ofString "__next__") hT F.slot_enumerate_next
      (wpAny_call_entry F.slot_enumerate_next hT F.entry_enumerate_next ?_ (F.args_enumerate_next_1 _))))
    show wpAny _ _ (field (.ref e) 2 >>= _) _ _ _
    refine wpAny_bind (wpAny_field he rfl (x := .ref it) rfl ?_)
    refine wpAny_bind (wpAny_nextOf_tuple_end (A := X.A.in1) (I.ok.hd hc) hit (show s.heap.IsTuple a its.toArray from p) (by simp; omega) fun h' x he' hx' => ?_)
    obtain ⟨o, ho, hcc⟩ := hx'
    refine wpAny_bind (wpAny_isInstance (T := "StopIteration") (b := true) ⟨o, ho, hcc⟩ isSubtype_stop ?_)
    exact wpAny_pure ⟨rfl, I.turned (t' := s.toks) (fun b o hb q => he' b o hb q) f0 f1 f3 f4 f5⟩
  self := fun A i s Q E st h => let ⟨⟨_, he⟩, _⟩ := st; wpAny_pyIter_enum he h
def iEnumA (K : PySem.W.Frag) (ta : TA) : TI := fun σ H R => ta σ H fun vs H1 => ∃ a, vs = [.ref a] ∧ (((∃ xs, SqL K H1 a xs) ∧ R (Ite K a) H1) ∨ ((∃ xs, SqT K H1 a xs) ∧ R (IteT K a) H1))
theorem pi_enumA {X : Cx} {e : Expr} {ta : TA} {p pos tpos : Pos} {elts : List Expr} {kk : Nat} (hg : Gl X "enumerate") (hm : X.mg "enumerate" = none) (ha : PA X [e] ta) (hs : starEach [e] X.env = [(false, eval e X.env)] := by rfl) :
    PI X (.Tuple elts kk tpos) (.Call (.Name "enumerate" p) [e] [] pos) (iEnumA X.K ta) := by
  refine ⟨fun pins s σ H R I h => ?_⟩
  refine Call_ (ld_blt I hg hm boot_enumerate (PyProof.Rows.callWith_type1 (thn (ha.run pos pins s σ H _ I h) fun us s1 ⟨vs, H1, I1, r1, q1⟩ => ?_) hs rfl))
  obtain ⟨a, ex, q⟩ := q1
  subst ex
  cases r1 with
  | cons r rr =>
    cases rr
    cases r
    have fp : ∀ b ∈ [s1.heap.objs.size + 1, s1.heap.objs.size], FpOk X pins H1 b := fun b hb => by
      have e' : b = s1.heap.objs.size + 1 ∨ b = s1.heap.objs.size := by simpa using hb
      have hle : s1.heap.objs.size ≤ b := by
        rcases e' with z | z
        · rw [z]; exact Nat.le_add_right _ _
        · rw [z]; exact Nat.le_refl _
      exact I1.fpOk hle (I1.hok.fresh hle)
    rcases q with ⟨⟨xs, hq⟩, q⟩ | ⟨⟨xs, hq⟩, q⟩
    · obtain ⟨its, rv, p', hz⟩ := I1.list hq
      refine call_enumerate_list p'.isList fun h' he hit hsz hk => wpAny_pyIter_enum he ?_
      have I2 : Inv X pins σ H1 { s1 with heap := h' } := I1.kept (t' := s1.toks) hk
      exact ⟨s1.heap.objs.size + 1, [s1.heap.objs.size + 1, s1.heap.objs.size], _, _, H1, rfl, I2, turn_enum a (s1.heap.objs.size + 1) s1.heap.objs.size, ⟨⟨.none, he⟩, hit, Nat.succ_ne_self _⟩, fp, q⟩
    · obtain ⟨its, rv, p', hz⟩ := I1.tuple hq
      refine enum1_begins (begins_tuple a its.toArray) (show s1.heap.IsTuple a its.toArray from p') fun h' he hit hsz hk => wpAny_pyIter_enum he ?_
      have I2 : Inv X pins σ H1 { s1 with heap := h' } := I1.kept (t' := s1.toks) hk
      exact ⟨s1.heap.objs.size + 1, [s1.heap.objs.size + 1, s1.heap.objs.size], _, _, H1, rfl, I2, turn_enumT a (s1.heap.objs.size + 1) s1.heap.objs.size, ⟨⟨.none, he⟩, ⟨_, hit, rfl, rfl⟩, Nat.succ_ne_self _⟩, fp, q⟩
end Eh

namespace Eh
open PySem PySem.Spec PyProof.Rows L2 HotX
/-! ### comprehensions within an except suite -/
theorem next_list_end_hot {prog : Program} {w : World} {A : Around} {E : Value → Shared → Prop} {s : Shared} {it l x1 : Addr} {i : Nat} {items : Array Value} {Q : Option Value → Shared → Prop} (hot : HotAt A x1 s.heap)
    (hit : s.heap.IsListIter it l i) (hl : s.heap.IsList l items) (hx : items[i]? = none) (hxi : x1 ≠ it)
    (hQ : ∀ h', Heap.ExtBut it s.heap h' → Q none { s with heap := h' }) : wpAny (model prog w) A (pyNext (.ref it)) Q E s := by
  obtain ⟨o, ho, hc, hd⟩ := id hit
  obtain ⟨ol, hol, _, nl, hdl⟩ := hl
  obtain ⟨hh, o1, vs1, h1, d1, c1⟩ := hot
  unfold pyNext
  refine wpAny_bind (wpAny_attempt (wpAny_callSpecial?_slot (name := Str.ofString "__next__") hit.typeIs slot_listiter_next
    (wpAny_call_entry slot_listiter_next hit.typeIs entry_listiter_next ?_ (args_listiter_next _))))
  show wpAny _ _ (field (.ref it) 0 >>= _) _ _ s
  refine wpAny_bind (wpAny_field ho hd (x := .ref l) rfl ?_)
  show wpAny _ _ (if (Value.ref l == Value.none) = true then _ else _) _ _ s
  rw [if_neg (show ¬ ((Value.ref l == Value.none) = true) from Bool.false_ne_true)]
  show wpAny _ _ (field (.ref it) 1 >>= _) _ _ s
  refine wpAny_bind (wpAny_field ho hd (x := .int i 0) rfl ?_)
  show wpAny _ _ (seqItems? (.ref l) >>= _) _ _ s
  refine wpAny_bind (wpAny_seqItems hol hdl ?_)
  simp only [Int.toNat_natCast, hx]
  refine wpAny_bind (wpAny_rule (wpAny_bind (wpAny_setField ho hd (by simp) ?_)))
  show wpAny _ _ (newExc (.type "StopIteration") [] >>= _) _ _ _
  refine wpAny_bind ?_
  simp only [newExc, newTuple]
  refine wpAny_bind (wpAny_newObj_type ?_ (by size_fits))
  refine wpAny_bind (m := firstArgMember _ _) (wpAny_of_eq (a := Value.none) (by first | rfl | (simp only [firstArgMember]; rfl)) ?_)
  refine wpAny_newObj_type ?_ (by size_fits)
  have sb : Heap.SameBut it s.heap (s.heap.update it (Obj.mapFields (·.setIfInBounds 0 .none))) := Heap.SameBut.update ..
  have h1' := (sb.2 x1 hxi).trans h1
  refine raiseNew_hot ⟨hh, o1, vs1, Heap.get?_push_of_some _ (Heap.get?_push_of_some _ h1'), d1, c1⟩ (Nat.ne_of_lt (Heap.lt_size (Heap.get?_push_of_some _ h1'))) (Heap.get?_push_size _ rfl) rfl (by first | (simp; done) | (simp; omega) | (simp only [Array.size_append]; simp; omega)) ?_
  refine wpAny_bind (wpAny_isInstance (T := "StopIteration") (b := true) ⟨_, Heap.get?_update_self _ (Heap.get?_push_size _ rfl) rfl, rfl⟩ isSubtype_stop ?_)
  refine wpAny_pure (hQ _ fun b ob hb e => ?_)
  have e' := sb.extBut b ob hb e
  rw [Heap.get?_update_other _ _ (Nat.ne_of_gt (Heap.lt_size (Heap.get?_push_of_some _ e')))]
  exact Heap.get?_push_of_some _ (Heap.get?_push_of_some _ e')
/-- an iterator that turns while an exception is handled -/
structure TurnK (P : Program) (w : World) (K : PySem.W.Frag) (tg : Expr) (J : It) (fp : List Addr) (it : Addr) (tn : Nat → Heap → Prop) : Prop where
  mem : it ∈ fp
  obj : ∀ i h, tn i h → ∀ b ∈ fp, ∃ o, h.get? b = some o ∧ ∀ v, o.data ≠ .cell v
  keep : ∀ i h h', tn i h → (∀ b ∈ fp, ∀ o, h.get? b = some o → h'.get? b = some o) → tn i h'
  item : ∀ (X : Cx), X.prog = P → X.w = w → X.K = K → ∀ (i : Nat) (pins : List (Addr × Obj)) (s : Shared) (σ : L2.St) (H : Hp) (E : Value → Shared → Prop), Inv X pins σ H s → (∀ b ∈ fp, FpOk X pins H b) → tn i s.heap → J.go i H →
    wpAny (model P w) X.A (pyNext (.ref it)) (fun r s1 => ∃ u, r = some u ∧
      wpAny (model P w) X.A (letOwnedTupleGo tg (.ref it) u) (fun _ s2 => ∃ x H', Inv X pins σ H' s2 ∧ RelV x u ∧ J.yld i H x H' ∧ tn (i + 1) s2.heap ∧ ∀ b ∈ fp, H' b = none) E s1) E s
  done : ∀ (X : Cx), X.prog = P → X.w = w → X.K = K → ∀ (x1 : Addr) (i : Nat) (pins : List (Addr × Obj)) (s : Shared) (σ : L2.St) (H : Hp) (E : Value → Shared → Prop), Inv X pins σ H s → HotAt X.A x1 s.heap → x1 ≠ it → (∀ b ∈ fp, FpOk X pins H b) → tn i s.heap → J.stop i H →
    wpAny (model P w) X.A (pyNext (.ref it)) (fun r s1 => r = none ∧ Inv X pins σ H s1) E s
  self : ∀ (A : Around) (i : Nat) (s : Shared) (Q : Value → Shared → Prop) (E : Value → Shared → Prop), tn i s.heap → Q (.ref it) s → wpAny (model P w) A (pyIter (.ref it)) Q E s
theorem turn_listK {P : Program} {w : World} {K : PySem.W.Frag} {tg : Expr} (a it : Addr) : TurnK P w K tg (Itl K a) [it] it (fun i h => h.IsListIter it a i) where
  mem := by simp
  obj := fun i h st b hb => by
    have e : b = it := by simpa using hb
    subst e
    obtain ⟨o, e, c, d⟩ := st
    exact ⟨o, e, fun v z => by rw [d] at z; cases z⟩
  keep := fun i h h' st k => st.at fun o e => k it (by simp) o e
  item := by
    intro X hP hw hK i pins s σ H E I hf st hg
    subst hP hw hK
    obtain ⟨xs, x, hq, hx⟩ := hg
    obtain ⟨its, rv, p, hz⟩ := I.list hq
    obtain ⟨u, hu, ru⟩ := rv.get hx
    obtain ⟨f0, f1, f2, f3, f4, f5⟩ := hf it (by simp)
    refine wpAny_pyNext_list_item st p.isList (x := u) (by simpa using hu) fun h' st' sb => ?_
    have I1 : Inv X pins σ H { s with heap := h' } := I.turned (t' := s.toks) (fun b o hb e => (sb.2 b hb).trans e) f0 f1 f3 f4 f5
    obtain ⟨o, e, c, d⟩ := id st'
    exact ⟨u, rfl, go_of (s := { s with heap := h' }) e c d (by decide) ⟨x, H, I1, ru, ⟨rfl, fun ys hy => by rw [I.list_inj hy hq]; exact hx⟩, st', fun b hb => (hf b hb).1⟩⟩
  done := by
    intro X hP hw hK x1 i pins s σ H E I hot hxi hf st hg
    subst hP hw hK
    obtain ⟨xs, hq, hx⟩ := hg
    obtain ⟨its, rv, p, hz⟩ := I.list hq
    obtain ⟨f0, f1, f2, f3, f4, f5⟩ := hf it (by simp)
    have hl := rv.length
    exact next_list_end_hot hot st p.isList (by simp; omega) hxi fun h' eb => ⟨rfl, I.turned (t' := s.toks) (fun b o hb e => eb b o hb e) f0 f1 f3 f4 f5⟩
  self := fun _ _ _ _ _ st h => wpAny_pyIter_listiter st h
theorem turn_rangeK {P : Program} {w : World} {K : PySem.W.Frag} {tg : Expr} (it : Addr) (lo : Int) (n : Nat) : TurnK P w K tg (Itr lo n) [it] it (fun i h => IsRangeIter h it (lo + (i : Nat) * 1) ((n : Int) - (i : Nat)) 1) where
  mem := by simp
  obj := (L2H.turn_rangeH (P := P) (w := w) (K := K) (tg := tg) it lo n).obj
  keep := (L2H.turn_rangeH (P := P) (w := w) (K := K) (tg := tg) it lo n).keep
  item := by
    intro X hP hw hK i pins s σ H E I hf st hg
    subst hP hw hK
    obtain ⟨f0, f1, f2, f3, f4, f5⟩ := hf it (by simp)
    have hlt : i < n := hg
    refine wpAny_pyNext_range_item st (by omega) fun h' st' sb => ?_
    have st2 : IsRangeIter h' it (lo + ((i + 1 : Nat) : Int) * 1) ((n : Int) - ((i + 1 : Nat) : Int)) 1 := by
      have e1 : lo + ((i : Nat) : Int) * 1 + 1 = lo + ((i + 1 : Nat) : Int) * 1 := by omega
      have e2 : (n : Int) - ((i : Nat) : Int) - 1 = (n : Int) - ((i + 1 : Nat) : Int) := by omega
      rw [← e1, ← e2]
      exact st'
    have I1 : Inv X pins σ H { s with heap := h', toks := s.toks + 1 } := I.turned (fun b o hb e => (sb.2 b hb).trans e) f0 f1 f3 f4 f5
    refine ⟨_, rfl, go_of (s := { s with heap := h', toks := s.toks + 1 }) (n := "range_iterator") st2 rfl rfl (by decide) ⟨.int (lo + i), H, I1, ⟨s.toks, ?_⟩, ⟨rfl, rfl⟩, st2, fun b hb => (hf b hb).1⟩⟩
    rw [Int.mul_one]
  done := by
    intro X hP hw hK x1 i pins s σ H E I hot hxi hf st hg
    subst hP hw hK
    obtain ⟨f0, f1, f2, f3, f4, f5⟩ := hf it (by simp)
    exact pyNext_range_end_hot hot st (by have : n ≤ i := hg; omega) fun h' eb => ⟨rfl, I.turned (t' := s.toks) (fun b o _ e => eb b o e) f0 f1 f3 f4 f5⟩
  self := fun _ _ _ _ _ st h => wpAny_pyIter_rangeiter st h
def PIEK (X : Cx) (pins : List (Addr × Obj)) (σ : L2.St) (tg : Expr) (R : It → Hp → Prop) (itv : Value) (s2 : Shared) : Prop :=
  ∃ (it : Addr) (fp : List Addr) (tn : Nat → Heap → Prop) (J : It) (H' : Hp), itv = .ref it ∧ Inv X pins σ H' s2 ∧ TurnK X.prog X.w X.K tg J fp it tn ∧ tn 0 s2.heap ∧ (∀ b ∈ fp, FpOk X pins H' b) ∧ R J H'
structure PIK (X : Cx) (tg iter : Expr) (wi : TI) : Prop where
  run : ∀ (pins : List (Addr × Obj)) (s : Shared) (σ : L2.St) (H : Hp) (R : It → Hp → Prop), Inv X pins σ H s → wi σ H R →
    wpAny (model X.prog X.w) X.A (eval iter X.env) (fun v s1 => wpAny (model X.prog X.w) X.A (pyIter v) (PIEK X pins σ tg R) X.xe s1) X.xe s
theorem pi_listK {X : Cx} {tg l : Expr} {tl : TE} (hl : PE X l tl) : PIK X tg l (iList X.K tl) := by
  refine ⟨fun pins s σ H R I h => ?_⟩
  refine thn (hl.run pins s σ H _ I h) fun v s1 ⟨x, H1, I1, r1, q1⟩ => ?_
  obtain ⟨a, e, ⟨xs, hq⟩, q⟩ := q1
  subst e
  cases r1
  obtain ⟨its, rv, p, hz⟩ := I1.list hq
  refine wpAny_pyIter_list p.isList ?_
  refine ⟨s1.heap.objs.size, [s1.heap.objs.size], _, _, H1, rfl, I1.kept (t' := s1.toks) fun b o e => Heap.get?_push_of_some _ e, turn_listK a _, ⟨_, Heap.get?_push_size _ rfl, rfl, rfl⟩, fun b hb => ?_, q⟩
  have e : b = s1.heap.objs.size := by simpa using hb
  subst e
  exact I1.fpOk (Nat.le_refl _) (I1.hok.fresh (Nat.le_refl _))
theorem pi_range1K {X : Cx} {tg a : Expr} {ta : TA} {p pos : Pos} (hg : Gl X "range") (hm : X.mg "range" = none) (ha : PA X [a] ta) (hs : starEach [a] X.env = [(false, eval a X.env)] := by rfl) : PIK X tg (.Call (.Name "range" p) [a] [] pos) (iRng1 ta) := by
  refine ⟨fun pins s σ H R I h => ?_⟩
  refine Call_ (ld_blt I hg hm boot_range (PyProof.Rows.callWith_type1 (thn (ha.run pos pins s σ H _ I h) fun us s1 ⟨vs, H1, I1, r1, q1⟩ => ?_) hs rfl))
  obtain ⟨j, e, q1, q2, q⟩ := q1
  subst e
  cases r1 with
  | cons r rr =>
    cases rr
    obtain ⟨t, rfl⟩ := r
    refine call_range_1 (wpAny_pyIter_range (IsRange.new ..) (small_one (by omega) (by omega) q1 q2) ?_)
    have I2 : Inv X pins σ H1 { s1 with heap := s1.heap.push { cls := .type "range", data := .fields #[.int 0 s1.toks, .int j t, .int 1 (s1.toks + 1)] }, toks := s1.toks + 1 + 1 } := I1.kept fun b o e => Heap.get?_push_of_some _ e
    refine ⟨_, [_], _, _, H1, rfl, I2.kept (t' := s1.toks + 1 + 1) fun b o e => Heap.get?_push_of_some _ e, turn_rangeK _ 0 j.toNat, ?_, fun b hb => ?_, q⟩
    · have e1 : (0 : Int) + ((0 : Nat) : Int) * 1 = 0 := by omega
      have e2 : ((j.toNat : Nat) : Int) - ((0 : Nat) : Int) = Builtin.Range.rangeSize 0 j 1 := by rw [rangeSize_one]; split <;> omega
      show IsRangeIter _ _ ((0 : Int) + ((0 : Nat) : Int) * 1) (((j.toNat : Nat) : Int) - ((0 : Nat) : Int)) 1
      rw [e1, e2]
      exact Heap.get?_push_size _ rfl
    · have e := List.mem_singleton.mp hb
      subst e
      exact I2.fpOk (Nat.le_refl _) (I2.hok.fresh (Nat.le_refl _))

section
variable {X : Cx}
/-- the block of a comprehension in a suite, p the handled exception -/
theorem lc_coreK {pins : List (Addr × Obj)} {s : Shared} {σ : L2.St} {H : Hp} {Q : VK} {elt tg iter : Expr} {ifs : List Expr} {scope : Scope} {own : List (Str × Nat)} {pos : Pos} {wi : TI} {g : TG} {tt : TT} {te : TE} {p : Addr × Obj}
    (hp : L2H.Hot1 X.A p) (hpn : p ∈ X.pn) (hN : X.N.Nodup) (I : Inv X pins σ H s) (hi : PIK X tg iter wi) (ok : BlkOk X.N X.env.scope scope own)
    (hg : ∀ (s : Shared) (H : Hp) (C : Addr) (cl : List (Str × Addr)) (fp : List Addr), PG (X.blk s H scope (compEnvC scope cl C X.env) fp) tg g) (ht : ∀ (s : Shared) (H : Hp) (C : Addr) (cl : List (Str × Addr)) (fp : List Addr), PTs (X.blk s H scope (compEnvC scope cl C X.env) fp) ifs tt)
    (he : ∀ (s : Shared) (H : Hp) (C : Addr) (cl : List (Str × Addr)) (fp : List Addr), PE (X.blk s H scope (compEnvC scope cl C X.env) fp) elt te) (hs : ∀ x, foldedSetIterable iter X.env x = pure x)
    (h : tLc wi g tt te (own.map (·.2)) σ H Q) :
    wpAny (model X.prog X.w) X.A (eval (.ListComp elt [⟨tg, iter, ifs, 0⟩] scope pos) X.env) (EP X pins σ Q) X.xe s := by
  rw [eval_ListComp]
  have hfree : ∀ y ∈ scope.names, y.2 = .free → ∃ c, X.env.cells.lookup y.1 = some c := fun y hy e => by
    rcases ok.free y hy e with k | k
    · exact I.ok.has _ (.inl k)
    · exact I.ok.has _ (.inr k)
  refine wpAny_comprehension_free rfl hs (closure_ok hfree) ok.kind (fun y hy e => by rw [ok.uniq y hy, e])
    (thn (hi.run pins s σ H _ I h) fun xv s1 hx => thn hx fun itv s2 h2 => ?_)
  obtain ⟨it, fp, tn, J, H2, e, I2, T, st2, f2, q⟩ := h2
  subst e
  refine wpAny_newObj_type (newEnv_comp ?_) (by show 0 ≤ sizeLine; decide)
  generalize hD : s2.heap.objs.size = D
  have hDn : H2 D = none := I2.hok.fresh (Nat.le_of_eq hD)
  obtain ⟨W, ⟨m0, w0⟩, turn⟩ := q D hDn
  generalize hs3 : ({ s2 with heap := s2.heap.push { cls := .type "list", data := .seq ([] : List Value).toArray } } : Shared) = s3
  have I3 : Inv X pins σ (upd H2 D (.lst [])) s3 := by
    rw [← hs3]
    refine I2.laid (t' := s2.toks) (fun b o e => Heap.get?_push_of_some _ e) (Nat.le_of_eq hD) ⟨Nat.zero_le _, [], 0, .nil, ?_⟩
    rw [← hD]
    exact Heap.get?_push_size _ rfl
  have h3 : s3.heap = s2.heap.push { cls := .type "list", data := .seq ([] : List Value).toArray } := by rw [← hs3]
  have sz : ∀ b ∈ fp, b < s2.heap.objs.size := fun b hb => by
    obtain ⟨o, e, _⟩ := T.obj _ _ st2 b hb
    exact Heap.lt_size e
  have f3 : ∀ b ∈ fp, FpOk X pins (upd H2 D (.lst [])) b ∧ b < s3.heap.objs.size := fun b hb => by
    have hlt := sz b hb
    refine ⟨⟨?_, (f2 b hb).2⟩, by rw [h3, Heap.size_push]; exact Nat.lt_succ_of_lt hlt⟩
    rw [upd_ne (by rw [← hD]; exact Nat.ne_of_lt hlt)]
    exact (f2 b hb).1
  have pa : ∀ b ∈ fp, p.1 ≠ b := fun b hb => (f2 b hb).2.2.2.2.2 p (List.mem_append_left _ hpn)
  have st3 : tn 0 s3.heap := T.keep _ _ _ st2 fun b _ o e => by rw [h3]; exact Heap.get?_push_of_some _ e
  have I4 := block_start I3 ok hN f3
  have pin3 := I3.pin p (List.mem_append_left _ hpn)
  have pg := hg s3 (upd H2 D (.lst [])) s3.heap.objs.size (cellsFrom (s3.heap.objs.size + 1) scope.names (cloFrom X.env.cells scope.names [])) fp
  have pt := ht s3 (upd H2 D (.lst [])) s3.heap.objs.size (cellsFrom (s3.heap.objs.size + 1) scope.names (cloFrom X.env.cells scope.names [])) fp
  have pe := he s3 (upd H2 D (.lst [])) s3.heap.objs.size (cellsFrom (s3.heap.objs.size + 1) scope.names (cloFrom X.env.cells scope.names [])) fp
  show codeAny _ _ (.compStart (.ListComp elt [⟨tg, iter, ifs, 0⟩] scope pos) 0 (.ref it) (.ref D) (compEnvC scope (cellsFrom (s3.heap.objs.size + 1) scope.names (cloFrom X.env.cells scope.names [])) s3.heap.objs.size X.env)) (compPost (model X.prog X.w) X.A X.xe none (EP X pins σ Q) (.ref D) s3.heap.objs.size) { s3 with heap := pushCells (s3.heap.push { cls := .type "dict", data := .dict #[] }) scope.names }
  have nfp : ∀ b ∈ fp, (upd H2 D (.lst [])) b = none := fun b hb => (f3 b hb).1.1
  generalize hce : compEnvC scope (cellsFrom (s3.heap.objs.size + 1) scope.names (cloFrom X.env.cells scope.names [])) s3.heap.objs.size X.env = ce at I4 pg pt pe ⊢
  have cL : ce.locals = s3.heap.objs.size := by subst hce; rfl
  generalize hH3 : upd H2 D (.lst []) = H3 at I3 I4 pg pt pe w0 nfp f3 pin3
  generalize hs4 : ({ s3 with heap := pushCells (s3.heap.push { cls := .type "dict", data := .dict #[] }) scope.names } : Shared) = s4 at I4 ⊢
  have k34 : ∀ b o, s3.heap.get? b = some o → s4.heap.get? b = some o := fun b o e => by rw [← hs4]; exact pushCells_keeps _ _ _ _ (Heap.get?_push_of_some _ e)
  have st4 : tn 0 s4.heap := T.keep _ _ _ st3 fun b _ o e => k34 b o e
  have J4 : Inv (X.blk s3 H3 scope ce fp) [p] (L2.wipe σ (own.map (·.2))) H3 s4 := I4.pins_of fun q hq => by
    have e := List.mem_singleton.mp hq
    subst e
    obtain ⟨e1, e2, e3, e4, e5⟩ := pin3
    refine ⟨k34 _ _ e1, e2, fun z => ?_, fun z => ?_, e5⟩
    · have z' : q.1 = s3.heap.objs.size := z.trans cL
      exact absurd (Heap.lt_size e1) (by rw [z']; exact Nat.lt_irrefl _)
    · exact (fun z2 => (List.mem_cons.mp z2).elim e3 e4) (I3.stkSub q.1 z)
  have hotAt : ∀ {σ' : L2.St} {H' : Hp} {s' : Shared} {ps : List (Addr × Obj)}, Inv (X.blk s3 H3 scope ce fp) ([p] ++ ps) σ' H' s' → HotAt X.A p.1 s'.heap := fun {σ' H' s' ps} I' => by
    obtain ⟨hh, v1, e1, c1⟩ := hp
    exact ⟨hh, p.2, v1, (I'.pin p (List.mem_append_right _ (List.mem_append_left _ (by simp)))).1, e1, c1⟩
  have stat : ∀ {σ' : L2.St} {H' : Hp} {s' : Shared}, Inv (X.blk s3 H3 scope ce fp) [p] σ' H' s' → (∀ b ∈ fp, H' b = none) → ∀ b ∈ fp, FpOk (X.blk s3 H3 scope ce fp) [p] H' b := fun {σ' H' s'} I' hn b hb =>
    ⟨hn b hb, (I'.ok.exf b hb).1, I'.ok.exfs b hb, .inl hb, fun x c e => (I'.ok.exf b hb).2 x c e, fun q hq => by
      have e : q = p := List.mem_singleton.mp (show q ∈ [p] from hq)
      subst e
      exact pa b hb⟩
  have loop : codeAny (model X.prog X.w) X.A (.compLoop (.ListComp elt [⟨tg, iter, ifs, 0⟩] scope pos) 0 (.ref it) (.ref D) ce) (compPost (model X.prog X.w) X.A X.xe none (EP X pins σ Q) (.ref D) s3.heap.objs.size) s4 := by
    refine compLoop_any (fun n s' => ∃ i H', Inv (X.blk s3 H3 scope ce fp) [p] (L2.wipe σ (own.map (·.2))) H' s' ∧ tn i s'.heap ∧ (∀ b ∈ fp, H' b = none) ∧ W i n H') ?_ m0 ⟨0, H3, J4, st4, nfp, w0⟩
    rintro n s5 ⟨i, H5, I5, st5, n5, w5⟩
    rcases turn i n H5 w5 with ⟨stop, qq⟩ | ⟨go, Nx, hNx, step⟩
    · have td := T.done (X.blk s3 H3 scope ce fp) rfl rfl rfl p.1 i [p] s5 _ H5 (fun _ _ => False) I5 (hotAt (ps := []) (by simpa using I5)) (pa it T.mem) (stat I5 n5) st5 stop
      refine thnF td fun r s6 ⟨hr, I6⟩ => ?_
      subst hr
      have I7 : Inv X pins σ H5 s6 := I3.call' (ch := fp) I6.os I6.base I6.hok I6.bare fun b hb => ⟨(f3 b hb).1.2.2.2.1, (f3 b hb).1.2.1, (f3 b hb).1.2.2.2.2.1, (f3 b hb).1.2.2.2.2.2⟩
      have nC : H5 s3.heap.objs.size = none := by
        have z : H5 ce.locals = none := I6.free
        rw [cL] at z
        exact z
      obtain ⟨m, hn, _⟩ := I6.loc
      have hn : s6.heap.Ns ce.locals m := hn
      rw [cL] at hn
      obtain ⟨f0, f1, f2', f3', f4, f5⟩ := I3.fpOk (Nat.le_refl _) nC
      exact ⟨m, hn, fun h'' sb => ⟨.ref D, H5, I7.turned (t' := s6.toks) (fun b o hb e => (sb.2 b hb).trans e) f0 f1 f3' f4 f5, rfl, qq⟩⟩
    · have ti := T.item (X.blk s3 H3 scope ce fp) rfl rfl rfl i [p] s5 _ H5 (fun _ _ => False) I5 (stat I5 n5) st5 go
      refine thnF ti fun r s6 ⟨u, hr, h6⟩ => ?_
      subst hr
      refine thnF h6 fun _ s7 ⟨x, H7, I7, r7, y7, st7, n7⟩ => ?_
      have I7' := I7.pinned (stat I7 n7) (T.obj _ _ st7)
      refine thnF (pg.run _ s7 _ H7 x u _ I7' r7 (step x H7 y7)) fun _ s8 ⟨σ8, H8, I8, hw8, q8⟩ => ?_
      refine thnF (pt.run _ s8 σ8 H8 _ I8 q8) fun b s9 ⟨H9, I9, q9⟩ => ?_
      have fin : ∀ {s' : Shared} {H' : Hp}, Inv (X.blk s3 H3 scope ce fp) ([p] ++ pinsAt fp s7.heap) σ8 H' s' → Nx H' → ∃ m, m < n ∧ ∃ i H', Inv (X.blk s3 H3 scope ce fp) [p] (L2.wipe σ (own.map (·.2))) H' s' ∧ tn i s'.heap ∧ (∀ b ∈ fp, H' b = none) ∧ W i m H' := fun {s' H'} I' nx => by
        obtain ⟨m', hm, w'⟩ := hNx H' nx
        have pin' : ∀ b ∈ fp, ∀ o, s7.heap.get? b = some o → s'.heap.get? b = some o ∧ H' b = none := fun b hb o e =>
          let z := I'.pin (b, o) (List.mem_append_right _ (List.mem_append_right _ (mem_pinsAt hb e)))
          ⟨z.1, z.2.1⟩
        have hl : (L2.wipe σ (own.map (·.2))).length = σ8.length := by rw [← hw8, wipe_length]
        refine ⟨m', hm, i + 1, H', (I'.unpinned (pins := [p])).weak hl (fun j v e => ?_), T.keep _ _ _ st7 fun b hb o e => (pin' b hb o e).1, fun b hb => ?_, w'⟩
        · rw [← hw8] at e
          exact (wipe_some e).1
        · obtain ⟨o, e, _⟩ := T.obj _ _ st7 b hb
          exact (pin' b hb o e).2
      cases b with
      | false =>
        simp only [Bool.false_eq_true, if_false] at q9 ⊢
        exact fin I9 q9
      | true =>
        simp only [if_true] at q9 ⊢
        refine thnF (pe.run _ s9 σ8 H9 _ I9 q9) fun z s10 ⟨yv, H10, I10, r10, acc, hD10, hz10, nx⟩ => ?_
        exact app_ok (X := X.blk s3 H3 scope ce fp) I10 hD10 hz10 r10 fun s11 I11 => fin I11 nx
  exact codeAny_compStart_list loop (T.self X.A 0 _ _ _ st4 loop)
theorem pe_lcK {elt tg iter : Expr} {ifs : List Expr} {scope : Scope} {own : List (Str × Nat)} {pos : Pos} {wi : TI} {g : TG} {tt : TT} {te : TE} (hc : L2H.HotC X) (hN : X.N.Nodup) (hi : PIK X tg iter wi) (ok : BlkOk X.N X.env.scope scope own)
    (hg : ∀ (s : Shared) (H : Hp) (C : Addr) (cl : List (Str × Addr)) (fp : List Addr), PG (X.blk s H scope (compEnvC scope cl C X.env) fp) tg g) (ht : ∀ (s : Shared) (H : Hp) (C : Addr) (cl : List (Str × Addr)) (fp : List Addr), PTs (X.blk s H scope (compEnvC scope cl C X.env) fp) ifs tt)
    (he : ∀ (s : Shared) (H : Hp) (C : Addr) (cl : List (Str × Addr)) (fp : List Addr), PE (X.blk s H scope (compEnvC scope cl C X.env) fp) elt te) (hs : ∀ x, foldedSetIterable iter X.env x = pure x := by intro _; rfl) :
    PE X (.ListComp elt [⟨tg, iter, ifs, 0⟩] scope pos) (tLc wi g tt te (own.map (·.2))) := by
  refine ⟨fun pins s σ H Q I h => ?_⟩
  obtain ⟨p, hp, hpn⟩ := hc
  exact lc_coreK hp hpn hN I hi ok hg ht he hs h
end
end Eh

namespace Eh
open PySem PySem.Spec PyProof.Rows L2

/-! ### defs of the text, called -/
theorem passN {X : Cx} : Passes (L2N.CX X.prog X.w) X E0 := fun _ _ _ _ _ _ _ h => by
  obtain ⟨_, _, _, _, _, _, _, _, _, _, _, _, z⟩ := h
  exact z.elim
structure Cl (P : Program) (w : World) (K : PySem.W.Frag) (mg : Str → Option Value) (base : Heap) (k : Nat) (x : Str) (sp : Sp) : Prop where
  ex : ∃ f fd ps, FnOk P w K mg base (L2N.CX P w) k f fd ps sp ∧ mg x = some (.ref f) ∧ PySem.W.keepIn K (.ref f) = true ∧ Binds K fd ps []
section
variable {X : Cx}
theorem dCall {k j : Nat} {x : Str} {sp : Sp} {E : XK} {e : Expr} {es : List Expr} {t : TA} {p pos : Pos} (c : Cl X.prog X.w X.K X.mg X.base k x sp) (hr : Room j X.A) (hk : k ≤ j) (hg : Gl X x) (hx : Passes (L2N.CX X.prog X.w) X E) (ha : PA X (e :: es) t)
    (hdb : (x == ("__debug__" : Str)) = false := by decide) (he : starEach (e :: es) X.env = (false, eval e X.env) :: starEach es X.env := by rfl) (hpl : (backTo pos (starEach es X.env)).any (·.1) = false := by rfl) :
    PE X (.Call (.Name x p) (e :: es) [] pos) (tCall sp [] E t) := by
  obtain ⟨f, fd, ps, F, m, kp, b⟩ := c.ex
  exact pe_call F (hr.mono hk) hg m kp b .nil hx ha hdb he hpl
theorem dCall0 {k j : Nat} {x : Str} {sp : Sp} {E : XK} {p pos : Pos} (c : Cl X.prog X.w X.K X.mg X.base k x sp) (hr : Room j X.A) (hk : k ≤ j) (hg : Gl X x) (hx : Passes (L2N.CX X.prog X.w) X E)
    (hdb : (x == ("__debug__" : Str)) = false := by decide) : PE X (.Call (.Name x p) [] [] pos) (tCall sp [] E tNil) := by
  obtain ⟨f, fd, ps, F, m, kp, b⟩ := c.ex
  exact pe_call0 F (hr.mono hk) hg m kp b .nil hx hdb
theorem dGlobI {x : Str} {i : Int} {pos : Pos} (hg : Gl X x) (h : ∃ t, X.mg x = some (.int i t)) (hd : (x == ("__debug__" : Str)) = false := by decide) : PE X (.Name x pos) (tC (.int i)) := by
  obtain ⟨t, e⟩ := h
  exact pe_glob hg e ⟨t, rfl⟩ hd
/-- in, not in: flat items, or data of any depth in a list -/
def rInA (K : PySem.W.Frag) : R2 := fun x y H Q => rIn K false x y H Q ∨ rInD K x y H Q
def rNiA (K : PySem.W.Frag) : R2 := fun x y H Q => rIn K true x y H Q ∨ rNotInD K x y H Q
theorem oIn (hu : X.A.units + 64 + 1 < cLine) : OpR X (compareOp .In) (rInA X.K) := op_in_seq.or (op_inD hu)
theorem oNi (hu : X.A.units + 64 + 1 < cLine) : OpR X (compareOp .NotIn) (rNiA X.K) := op_notIn_seq.or (op_notInD hu)
end
/-- what the text says of an own error -/
def ExcF (K : PySem.W.Frag) (C : Addr) : Prop := PySem.W.excIn K C [.type "ValueError", .type "Exception", .type "BaseException", .type "object"] "ValueError.__new__" = true ∧ PySem.W.keepIn K (.ref C) = true ∧
  PySem.W.subIn K (.ref C) (.type "BaseException") = some true ∧ PySem.W.typeIn K (.ref C) = some (.type "type")
theorem hu1 {j : Nat} {A : Around} (hr : Room j A) : A.units + 64 + 1 < cLine := by
  have := hr.un
  omega
/-- a def's promise from its body -/
theorem cl_of {P : Program} {w : World} {K : PySem.W.Frag} {mg : Str → Option Value} {base : Heap} {k : Nat} {x : Str} {sp : Sp} {params : Arguments} {body : List Stmt} {scope : Scope} {f : Addr} {N ps : List Str} {t : XK → TS}
    (F : ∃ fd, FunD K x x params body scope [] [] f fd) (g : mg x = some (.ref f)) (S : FnScope N ps scope)
    (hb : ∀ (kV doc pm : Value) (an : Option Addr) (cdv ct : Value) (us : List Value), us.length = ps.length → bindArgs (PySem.W.fnOf x x params body scope .none kV doc pm an cdv ct) ⟨us, []⟩ = pure (ps.zip us))
    (len : ∀ vs H Q E, sp vs H Q E → vs.length = ps.length)
    (der : ∀ (cdv : Value) (A : Around) (outer : List Env) (s : Shared) (H : Hp) (E : XK), Room k (A.deeper (envOfC x scope s.heap.objs.size f cdv)) → PSs (cxOf (L2N.CX P w) P w K mg base N x scope f cdv A outer s H E) body (t E))
    (pure_ : ∀ vs H Q E, sp vs H Q E → t E { nx := fun _ H' => Q .non H', rt := Q } (L2.start N vs) H) : Cl P w K mg base (k + 1) x sp := by
  obtain ⟨fd, F⟩ := F
  exact ⟨f, fd, ps, F.ok S len fun cdv A outer s H vs Q E hr h => ⟨t E, der cdv A outer s H E hr, pure_ vs H Q E h⟩, g, F.kp, F.bindsN hb⟩
/-- a def that takes calls of itself: below every depth nothing is promised -/
theorem cl_bot {P : Program} {w : World} {K : PySem.W.Frag} {mg : Str → Option Value} {base : Heap} {x : Str} {params : Arguments} {body : List Stmt} {scope : Scope} {f : Addr} {ps : List Str} {sp : Sp} (hs : ∀ vs H Q E, ¬ sp vs H Q E)
    (F : ∃ fd, FunD K x x params body scope [] [] f fd) (g : mg x = some (.ref f))
    (hb : ∀ (kV doc pm : Value) (an : Option Addr) (cdv ct : Value) (us : List Value), us.length = ps.length → bindArgs (PySem.W.fnOf x x params body scope .none kV doc pm an cdv ct) ⟨us, []⟩ = pure (ps.zip us)) : Cl P w K mg base 0 x sp := by
  obtain ⟨fd, F⟩ := F
  exact ⟨f, fd, ps, ⟨fun vs H Q E h => (hs _ _ _ _ h).elim, fun _ _ _ _ _ _ _ _ _ _ _ _ _ h => (hs _ _ _ _ h).elim⟩, g, F.kp, F.bindsN hb⟩
/-- the law's def -/
theorem fnok_of {P : Program} {w : World} {K : PySem.W.Frag} {mg : Str → Option Value} {base : Heap} {k : Nat} {x : Str} {sp : Sp} {params : Arguments} {body : List Stmt} {scope : Scope} {f : Addr} {fd : FuncData} {N ps : List Str} {t : XK → TS}
    (F : FunD K x x params body scope [] [] f fd) (S : FnScope N ps scope) (len : ∀ vs H Q E, sp vs H Q E → vs.length = ps.length)
    (der : ∀ (cdv : Value) (A : Around) (outer : List Env) (s : Shared) (H : Hp) (E : XK), Room k (A.deeper (envOfC x scope s.heap.objs.size f cdv)) → PSs (cxOf (L2N.CX P w) P w K mg base N x scope f cdv A outer s H E) body (t E))
    (pure_ : ∀ vs H Q E, sp vs H Q E → t E { nx := fun _ H' => Q .non H', rt := Q } (L2.start N vs) H) : FnOk P w K mg base (L2N.CX P w) (k + 1) f fd ps sp :=
  F.ok S len fun cdv A outer s H vs Q E hr h => ⟨t E, der cdv A outer s H E hr, pure_ vs H Q E h⟩
theorem spR_len {R : List PyData → Out → Prop} {n : Nat} (h : ∀ ds o, R ds o → ds.length = n) : ∀ vs H Q E, spR R vs H Q E → vs.length = n := fun vs H Q E ⟨F, ds, o, _, r, hR, _⟩ => r.length.trans (h ds o hR)
theorem spN_len {R : List PyData → List PyData → Prop} {n : Nat} (h : ∀ ds o, R ds o → ds.length = n) : ∀ vs H Q E, spN R vs H Q E → vs.length = n := fun vs H Q E ⟨F, ds, o, _, r, hR, _⟩ => r.length.trans (h ds o hR)
theorem cxn_false {P : Program} {w : World} {H : Hp} {s : Shared} {e : Value} {s' : Shared} (h : L2N.CX P w [] H s (fun _ _ _ => False) e s') : False := by
  obtain ⟨_, _, _, _, _, _, _, _, _, _, _, _, z⟩ := h
  exact z
/-- the law's walk, its errors' context at each world -/
theorem walkE {l : PySem.W.OpenLaw} {n k : Nat} {q : Program} {loose : List Str} {XP : (Str → Option Value) → Heap → Prop} {YP : World → Heap → Prop} {d : DefRec} {CX : World → CXT} {x : Str}
    (hn : l.most = some n) (hn2 : n ≤ sizeLine) (hdf : d.params.defaults = []) (hr : Room k callerA)
    (F : ∀ (w : World) (mg : Str → Option Value) (fa : Addr) (h : Heap), YP w h → h.Ns mainGlobals mg → mg d.name = some (.ref fa) →
      ∃ (K : PySem.W.Frag) (fd : FuncData) (sp : Sp), K.In h ∧ (∀ (s : Shared) (u : Value), BindsTo s fd ⟨[u], []⟩ [(x, u)]) ∧
        (∀ (H : Hp) (a : Addr) (ns : List Int), ns.length ≤ n → Only H → SqL K H a (ns.map V.int) → sp [.ref a] H (fun v _ => v = .bl true) fun _ _ _ => False) ∧
        ∀ base : Heap, K.In base → base.Ns mainGlobals mg → FnOk l.prog w K mg base (CX w) k fa fd [x] sp)
    (hCX : ∀ (w : World) (H : Hp) (s : Shared) (e : Value) (s' : Shared), CX w [] H s (fun _ _ _ => False) e s' → False) :
    PySem.W.WalkO q loose XP YP l.row.toRowW d [] (fun f vs => PySem.call f vs) := by
  refine Att.attach_call hn hdf fun w s₀ s₁ mg mb fa o pm cd doc a vs ns G Y ho hd hcd hmg hobj hints hlen hg => ?_
  obtain ⟨K, fd, sp, KX, hb, hsp, hF⟩ := F w mg fa _ Y G.T.g hmg
  exact law_call KX G.T.g G.T.b G.T.builtins G.T.nolimit hg hobj hints (Nat.le_trans hlen hn2) hr hF hb (fun H hO hS => hsp H a ns hlen hO hS) fun H e s' => hCX w H s₁ e s'

end Eh

namespace Eh
open PySem PySem.Spec PyProof.Rows L2

/-! ### what an expression gives whose draws may give anything within their bounds -/
def EvQ (C : Pc) (te : TE) (Γ : List Sl) (P : Hp → Hp → V → Hp → Hp → Prop) : Prop :=
  ∀ (B F H : Hp) (σ : L2.St), Wd C F H → Gm C B F H σ Γ → ∀ Q : VK, (∀ v F' H', Grow C.S F H F' H' → Wd C F' H' → P F H v F' H' → Q v H') → te σ H Q
def EvR (C : Pc) (te : TE) (Γ : List Sl) (P : PyData → Prop) : Prop := EvQ C te Γ fun _ _ v F' _ => ∃ d, P d ∧ Rp F' v d
def EvI (C : Pc) (te : TE) (Γ : List Sl) (P : Int → Prop) : Prop := EvQ C te Γ fun _ _ v _ _ => ∃ i, P i ∧ v = .int i
def EnR (C : Pc) (te : TE) (Γ : List Sl) (P : List PyData → Prop) : Prop :=
  EvQ C te Γ fun _ H v F' H' => ∃ p vs ds, v = .ref p ∧ H p = none ∧ F' p = none ∧ p ∉ C.S ∧ H' p = some (.lst vs) ∧ P ds ∧ RpAll F' vs ds
def RsR (C : Pc) (te : TE) (Γ : List Sl) (P : List PyData → Prop) : Prop :=
  EvQ C te Γ fun _ _ v F' H' => ∃ p vs ds, v = .ref p ∧ p ∉ C.S ∧ (H' p = some (.lst vs) ∨ H' p = some (.tup vs)) ∧ P ds ∧ RpAll F' vs ds
def EvTR (C : Pc) (tt : TT) (Γ : List Sl) (P : Bool → Prop) : Prop :=
  ∀ (B F H : Hp) (σ : L2.St), Wd C F H → Gm C B F H σ Γ → ∀ Q : Bool → Hp → Prop, (∀ b F' H', Grow C.S F H F' H' → Wd C F' H' → P b → Q b H') → tt σ H Q
def EvAR (C : Pc) (ta : TA) (Γ : List Sl) (P : List PyData → Prop) : Prop :=
  ∀ (B F H : Hp) (σ : L2.St), Wd C F H → Gm C B F H σ Γ → ∀ Q : List V → Hp → Prop, (∀ vs F' H' ds, Grow C.S F H F' H' → Wd C F' H' → P ds → RpAll F' vs ds → Q vs H') → ta σ H Q
theorem Grow.fresh' {S : List Addr} {F H F' H' : Hp} {p : Addr} (a : Grow S F H F' H') (h : H' p = none) : H p = none := by
  cases q : H p with
  | none => rfl
  | some u => exact absurd h (a.th p (by rw [q]; exact fun z => nomatch z))
section
variable {C : Pc} {te ta tb : TE} {tt tu : TT} {ts : TA} {Γ : List Sl} {d x y : PyData} {ds es : List PyData} {P P' : PyData → Prop} {K : PySem.W.Frag} {E : XK}
theorem EvP.q {P : Hp → Hp → V → Hp → Hp → Prop} (h : EvP te Γ P) : EvQ C te Γ P := fun B F H σ w g Q q => h C B F H σ w g Q fun v F' H' gr p => q v F' H' gr.weak (w.grow gr) p
theorem EvQ.imp {P P' : Hp → Hp → V → Hp → Hp → Prop} (h : EvQ C te Γ P) (i : ∀ F H v F' H', Wd C F H → Grow C.S F H F' H' → Wd C F' H' → P F H v F' H' → P' F H v F' H') : EvQ C te Γ P' :=
  fun B F H σ w g Q q => h B F H σ w g Q fun v F' H' gr w' p => q v F' H' gr w' (i F H v F' H' w gr w' p)
theorem EvD.r (h : EvD te Γ d) : EvR C te Γ (fun x => x = d) := (EvP.q h).imp fun _ _ v F' _ _ _ _ r => ⟨d, rfl, r⟩
theorem EvD.i {i : Int} (h : EvD te Γ (.int i)) : EvI C te Γ (fun k => k = i) := (EvP.q h).imp fun _ _ v F' _ _ _ _ r => ⟨i, rfl, r.int_inv⟩
theorem EvN.r (h : EvN te Γ ds) : EnR C te Γ (fun x => x = ds) := (EvP.q h).imp fun _ H v F' _ w _ _ ⟨p, vs, e, n, f, l, r⟩ => ⟨p, vs, ds, e, n, f, fun z => w.sH p z n, l, rfl, r⟩
theorem EvR.imp (h : EvR C te Γ P) (i : ∀ d, P d → P' d) : EvR C te Γ P' := EvQ.imp h fun _ _ _ _ _ _ _ _ ⟨d, p, r⟩ => ⟨d, i d p, r⟩
theorem EvI.imp {P P' : Int → Prop} (h : EvI C te Γ P) (i : ∀ k, P k → P' k) : EvI C te Γ P' := EvQ.imp h fun _ _ _ _ _ _ _ _ ⟨d, p, r⟩ => ⟨d, i d p, r⟩
theorem EnR.imp {P P' : List PyData → Prop} (h : EnR C te Γ P) (i : ∀ k, P k → P' k) : EnR C te Γ P' := EvQ.imp h fun _ _ _ _ _ _ _ _ ⟨p, vs, ds, a, b, c, s, d, e, f⟩ => ⟨p, vs, ds, a, b, c, s, d, i ds e, f⟩
theorem EvTR.imp {P P' : Bool → Prop} (h : EvTR C tt Γ P) (i : ∀ k, P k → P' k) : EvTR C tt Γ P' := fun B F H σ w g Q q => h B F H σ w g Q fun b F' H' g1 w1 p => q b F' H' g1 w1 (i b p)
theorem EvI.r {P : Int → Prop} (h : EvI C te Γ P) : EvR C te Γ (fun d => ∃ i, P i ∧ d = .int i) := EvQ.imp h fun _ _ v F' _ _ _ _ ⟨i, p, e⟩ => ⟨.int i, ⟨i, p, rfl⟩, e ▸ .int i⟩
theorem EvR.int {P : Int → Prop} (h : EvR C te Γ (fun d => ∃ i, P i ∧ d = .int i)) : EvI C te Γ P := EvQ.imp h fun _ _ v F' _ _ _ _ ⟨d, ⟨i, p, e⟩, r⟩ => ⟨i, p, by subst e; exact r.int_inv⟩
theorem EnR.fz {P : List PyData → Prop} (h : EnR C te Γ P) : EvR C te Γ (fun d => ∃ ds, P ds ∧ d = .list ds) := fun B F H σ w g Q q =>
  h B F H σ w g Q fun v F' H' gr w' ⟨p, vs, ds, e, n, f, s, l, pp, r⟩ => by
    subst e
    exact q _ (upd F' p (.lst vs)) H' (gr.freeze n l f) (w'.freeze s l f) ⟨.list ds, ⟨ds, pp, rfl⟩, .lst upd_same (r.mono (Sub.new f))⟩
theorem EnR.s {P : List PyData → Prop} (h : EnR C te Γ P) : RsR C te Γ P := EvQ.imp h fun _ _ _ _ _ _ _ _ ⟨p, vs, ds, a, b, c, s, d, e, f⟩ => ⟨p, vs, ds, a, s, .inl d, e, f⟩
theorem EvR.ls {P : List PyData → Prop} (h : EvR C te Γ (fun d => ∃ ds, P ds ∧ d = .list ds)) : RsR C te Γ P := EvQ.imp h fun _ _ _ _ _ w gr w' ⟨d, ⟨ds, p, e⟩, r⟩ => by
  subst e
  obtain ⟨a, xs, e, f, ra⟩ := Rp.lst_inv r
  exact ⟨a, xs, ds, e, (fun z => by have := w'.sF a z; rw [f] at this; cases this), .inl (w'.sub _ _ f), p, ra⟩
theorem EvR.tp {P : List PyData → Prop} (h : EvR C te Γ (fun d => ∃ ds, P ds ∧ d = .tuple ds)) : RsR C te Γ P := EvQ.imp h fun _ _ _ _ _ w gr w' ⟨d, ⟨ds, p, e⟩, r⟩ => by
  subst e
  obtain ⟨a, xs, e, f, ra⟩ := Rp.tup_inv r
  exact ⟨a, xs, ds, e, (fun z => by have := w'.sF a z; rw [f] at this; cases this), .inr (w'.sub _ _ f), p, ra⟩
theorem EvD.rsl (h : EvD te Γ (.list ds)) : RsR C te Γ (fun x => x = ds) := (h.r.imp fun d e => ⟨ds, rfl, e⟩ : EvR C te Γ (fun d => ∃ es, es = ds ∧ d = .list es)).ls
theorem EvD.rst (h : EvD te Γ (.tuple ds)) : RsR C te Γ (fun x => x = ds) := (h.r.imp fun d e => ⟨ds, rfl, e⟩ : EvR C te Γ (fun d => ∃ es, es = ds ∧ d = .tuple es)).tp
theorem rs_own {i : Nat} (h : Γ[i]? = some (.own ds)) : RsR C (tVar i) Γ (fun x => x = ds) := fun B F H σ w g Q q => by
  obtain ⟨p, vs, e, l, f, b, n, r⟩ := g.ok i _ h
  exact ⟨_, e, q _ F H (.refl w.sub) w ⟨p, vs, ds, rfl, n, .inl l, rfl, r⟩⟩
/-- operators -/
theorem er_op {r : R2} {Pa Pb : PyData → Prop} (ha : EvR C ta Γ Pa) (hb : EvR C tb Γ Pb) (hr : ∀ x y, Pa x → Pb y → ∃ d, P d ∧ RV r x y d) : EvR C (tOp r ta tb) Γ P := fun B F H σ w g Q q =>
  ha B F H σ w g _ fun v F1 H1 g1 w1 ⟨x, px, r1⟩ => hb B F1 H1 σ w1 (g.grow g1) _ fun u F2 H2 g2 w2 ⟨y, py, r2⟩ => by
    obtain ⟨d, pd, rv⟩ := hr x y px py
    exact rv F2 H2 v u g2.fh (r1.mono g2.ff) r2 Q fun z F3 H3 g3 r3 => q z F3 H3 ((g1.trans g2).trans g3.weak) (w2.grow g3) ⟨d, pd, r3⟩
theorem ei_op {r : R2} {Pa Pb P : Int → Prop} (ha : EvI C ta Γ Pa) (hb : EvI C tb Γ Pb) (hr : ∀ i j, Pa i → Pb j → ∃ k, P k ∧ RV r (.int i) (.int j) (.int k)) : EvI C (tOp r ta tb) Γ P :=
  EvR.int (er_op ha.r hb.r fun x y ⟨i, pi, ei⟩ ⟨j, pj, ej⟩ => by
    subst ei ej
    obtain ⟨k, pk, rv⟩ := hr i j pi pj
    exact ⟨.int k, ⟨k, pk, rfl⟩, rv⟩)
theorem rv_add {i j : Int} : RV (rAddA K) (.int i) (.int j) (.int (i + j)) := fun F H v u s r1 r2 Q q => .inl (rv_I0 (g := fun i j => .int (i + j)) (fun F => .int _) F H v u s r1 r2 Q q)
theorem rv_mul {i j : Int} (hc : CMul i j) : RV (rMulA K) (.int i) (.int j) (.int (i * j)) := fun F H v u s r1 r2 Q q => .inl (rv_I (g := fun i j => .int (i * j)) hc (fun F => .int _) F H v u s r1 r2 Q q)
theorem rv_sub {i j : Int} : RV rSubI (.int i) (.int j) (.int (i - j)) := rv_I0 fun F => .int _
theorem rv_mod {i j : Int} (hc : 0 < j) : RV rModI (.int i) (.int j) (.int (i % j)) := rv_I hc fun F => .int _
theorem rv_div {i j : Int} (hc : CDiv i j) : RV rDivI (.int i) (.int j) (.int (i / j)) := rv_I hc fun F => .int _
theorem rv_eqI {i j : Int} : RV (rEqA K) (.int i) (.int j) (.bool (decide (i = j))) := fun F H v u s r1 r2 Q q => by
  rw [r1.int_inv, r2.int_inv]
  refine .inl ⟨rfl, ?_⟩
  rw [show decide (V.int i = V.int j) = decide (i = j) by rw [dec_int, Bool.beq_eq_decide_eq]]
  exact q _ F H (.refl s) (.bl _)
theorem ei_add {Pa Pb P : Int → Prop} (ha : EvI C ta Γ Pa) (hb : EvI C tb Γ Pb) (h : ∀ i j, Pa i → Pb j → P (i + j)) : EvI C (tOp (rAddA K) ta tb) Γ P := ei_op ha hb fun i j a b => ⟨_, h i j a b, rv_add⟩
theorem ei_sub {Pa Pb P : Int → Prop} (ha : EvI C ta Γ Pa) (hb : EvI C tb Γ Pb) (h : ∀ i j, Pa i → Pb j → P (i - j)) : EvI C (tOp rSubI ta tb) Γ P := ei_op ha hb fun i j a b => ⟨_, h i j a b, rv_sub⟩
theorem ei_mul {Pa Pb P : Int → Prop} (ha : EvI C ta Γ Pa) (hb : EvI C tb Γ Pb) (h : ∀ i j, Pa i → Pb j → CMul i j ∧ P (i * j)) : EvI C (tOp (rMulA K) ta tb) Γ P := ei_op ha hb fun i j a b => ⟨_, (h i j a b).2, rv_mul (h i j a b).1⟩
theorem ei_mod {Pa Pb P : Int → Prop} (ha : EvI C ta Γ Pa) (hb : EvI C tb Γ Pb) (h : ∀ i j, Pa i → Pb j → 0 < j ∧ P (i % j)) : EvI C (tOp rModI ta tb) Γ P := ei_op ha hb fun i j a b => ⟨_, (h i j a b).2, rv_mod (h i j a b).1⟩
theorem ei_div {Pa Pb P : Int → Prop} (ha : EvI C ta Γ Pa) (hb : EvI C tb Γ Pb) (h : ∀ i j, Pa i → Pb j → CDiv i j ∧ P (i / j)) : EvI C (tOp rDivI ta tb) Γ P := ei_op ha hb fun i j a b => ⟨_, (h i j a b).2, rv_div (h i j a b).1⟩
theorem ei_int {P : Int → Prop} (h : EvI C ta Γ P) : EvI C (tCB rIntA (tCons ta tNil)) Γ P := fun B F H σ w g Q q =>
  h B F H σ w g _ fun v F1 H1 g1 w1 ⟨i, p, e⟩ => by
    subst e
    exact .inl ⟨i, rfl, q _ F1 H1 g1 w1 ⟨i, p, rfl⟩⟩
/-- subscripts -/
theorem er_ix {Ps : List PyData → Prop} {Pi : Int → Prop} (ha : RsR C ta Γ Ps) (hb : EvI C tb Γ Pi) (h : ∀ ds i, Ps ds → Pi i → ∃ d, atI ds i = some d ∧ P d) : EvR C (tOp (rIx K) ta tb) Γ P := fun B F H σ w g Q q =>
  ha B F H σ w g _ fun v F1 H1 g1 w1 ⟨p, vs, ds, e1, hs, h1, p1, r1⟩ => hb B F1 H1 σ w1 (g.grow g1) _ fun u F2 H2 g2 w2 ⟨i, pi, e2⟩ => by
    subst e1 e2
    obtain ⟨d, hd, pd⟩ := h ds i p1 pi
    obtain ⟨j, e1, e2⟩ : ∃ j, ixN ds.length i = some j ∧ ds[j]? = some d := by
      unfold atI at hd
      cases e : ixN ds.length i with
      | none => rw [e] at hd; cases hd
      | some j => rw [e] at hd; exact ⟨j, rfl, hd⟩
    have r2 := r1.mono g2.ff
    obtain ⟨v, k1, k2⟩ := r2.get e2
    have a : atI vs i = some v := by unfold atI; rw [r2.length, e1]; exact k1
    rcases h1 with h1 | h1
    · exact .inl ⟨p, vs, i, v, rfl, rfl, SqL.of (g2.hh _ _ hs h1), a, q v F2 H2 (g1.trans g2) w2 ⟨d, pd, k2⟩⟩
    · exact .inr (.inl ⟨p, vs, i, v, rfl, rfl, SqT.of (g2.hh _ _ hs h1), a, q v F2 H2 (g1.trans g2) w2 ⟨d, pd, k2⟩⟩)
/-- tests -/
theorem etr_d {b : Bool} (h : EvT tt Γ b) : EvTR C tt Γ (fun x => x = b) := fun B F H σ w g Q q => h C B F H σ w g Q fun F' H' gr => q b F' H' gr.weak (w.grow gr) rfl
theorem etr_val {P : Bool → Prop} (h : EvR C te Γ (fun d => ∃ b, P b ∧ d = .bool b)) : EvTR C (tB te) Γ P := fun B F H σ w g Q q => h B F H σ w g _ fun v F1 H1 g1 w1 ⟨d, ⟨b, p, e⟩, r⟩ => by
  subst e
  exact ⟨b, r.bl_inv, q b F1 H1 g1 w1 p⟩
theorem etr_test {P : Bool → Prop} (h : EvR C te Γ (fun d => ∃ b, P b ∧ d = .bool b)) : EvTR C (tTest te) Γ P := fun B F H σ w g Q q => h B F H σ w g _ fun v F1 H1 g1 w1 ⟨d, ⟨b, p, e⟩, r⟩ => by
  subst e
  exact ⟨b, r.bl_inv, q b F1 H1 g1 w1 p⟩
theorem etr_eq {Pa Pb : Int → Prop} {P : Bool → Prop} (ha : EvI C ta Γ Pa) (hb : EvI C tb Γ Pb) (h : ∀ i j, Pa i → Pb j → P (decide (i = j))) : EvTR C (tTest (tOp (rEqA K) ta tb)) Γ P :=
  etr_test (er_op ha.r hb.r fun x y ⟨i, pi, ei⟩ ⟨j, pj, ej⟩ => by
    subst ei ej
    exact ⟨.bool (decide (i = j)), ⟨_, h i j pi pj, rfl⟩, rv_eqI⟩)
theorem etr_gt {Pa Pb : Int → Prop} {P : Bool → Prop} (ha : EvI C ta Γ Pa) (hb : EvI C tb Γ Pb) (h : ∀ i j, Pa i → Pb j → P (decide (j < i))) : EvTR C (tTest (tOp rGtI ta tb)) Γ P :=
  etr_test (er_op ha.r hb.r fun x y ⟨i, pi, ei⟩ ⟨j, pj, ej⟩ => by
    subst ei ej
    exact ⟨.bool (decide (j < i)), ⟨_, h i j pi pj, rfl⟩, rv_I0 fun F => .bl _⟩)
theorem etr_lt {Pa Pb : Int → Prop} {P : Bool → Prop} (ha : EvI C ta Γ Pa) (hb : EvI C tb Γ Pb) (h : ∀ i j, Pa i → Pb j → P (decide (i < j))) : EvTR C (tTest (tOp rLtI ta tb)) Γ P :=
  etr_test (er_op ha.r hb.r fun x y ⟨i, pi, ei⟩ ⟨j, pj, ej⟩ => by
    subst ei ej
    exact ⟨.bool (decide (i < j)), ⟨_, h i j pi pj, rfl⟩, rv_I0 fun F => .bl _⟩)
/-- any outcome -/
theorem etr_any (h : EvTR C tt Γ fun _ => True) {P : Bool → Prop} (p : ∀ b, P b) : EvTR C tt Γ P := h.imp fun b _ => p b
theorem etr_and {P1 P2 P : Bool → Prop} (h1 : EvTR C tt Γ P1) (h2 : P1 true → EvTR C tu Γ P2) (hf : P1 false → P false) (ht : ∀ b, P1 true → P2 b → P b) : EvTR C (tAnd tt tu) Γ P := fun B F H σ w g Q q => h1 B F H σ w g _ fun b F1 H1 g1 w1 p => by
  cases b with
  | true =>
    show tu σ H1 Q
    exact h2 p B F1 H1 σ w1 (g.grow g1) Q fun b F2 H2 g2 w2 p2 => q b F2 H2 (g1.trans g2) w2 (ht b p p2)
  | false =>
    show Q false H1
    exact q _ F1 H1 g1 w1 (hf p)
theorem etr_or {P1 P2 P : Bool → Prop} (h1 : EvTR C tt Γ P1) (h2 : P1 false → EvTR C tu Γ P2) (hf : P1 true → P true) (ht : ∀ b, P1 false → P2 b → P b) : EvTR C (tOr tt tu) Γ P := fun B F H σ w g Q q => h1 B F H σ w g _ fun b F1 H1 g1 w1 p => by
  cases b with
  | false =>
    show tu σ H1 Q
    exact h2 p B F1 H1 σ w1 (g.grow g1) Q fun b F2 H2 g2 w2 p2 => q b F2 H2 (g1.trans g2) w2 (ht b p p2)
  | true =>
    show Q true H1
    exact q _ F1 H1 g1 w1 (hf p)
theorem etr_not {P P1 : Bool → Prop} (h : EvTR C tt Γ P1) (p : ∀ b, P1 b → P (!b)) : EvTR C (tNot tt) Γ P := fun B F H σ w g Q q => h B F H σ w g _ fun b F1 H1 g1 w1 pb => q (!b) F1 H1 g1 w1 (p b pb)
/-- arguments -/
theorem ear_d (h : EvA ts Γ ds) : EvAR C ts Γ (fun x => x = ds) := fun B F H σ w g Q q => h C B F H σ w g Q fun vs F1 H1 g1 r => q vs F1 H1 ds g1.weak (w.grow g1) rfl r
theorem ear_nil : EvAR C tNil Γ (fun x => x = []) := fun B F H σ w g Q q => q [] F H [] (.refl w.sub) w rfl .nil
theorem ear_cons {Ps Pr : List PyData → Prop} (ha : EvR C ta Γ P) (hb : EvAR C ts Γ Ps) (h : ∀ d ds, P d → Ps ds → Pr (d :: ds)) : EvAR C (tCons ta ts) Γ Pr := fun B F H σ w g Q q =>
  ha B F H σ w g _ fun v F1 H1 g1 w1 ⟨d, pd, r⟩ => hb B F1 H1 σ w1 (g.grow g1) _ fun vs F2 H2 ds g2 w2 ps rs => q (v :: vs) F2 H2 (d :: ds) (g1.trans g2) w2 (h d ds pd ps) (.cons (r.mono g2.ff) rs)
/-- tuples and lists laid -/
theorem er_tup {Ps : List PyData → Prop} (h : EvAR C ts Γ Ps) (hp : ∀ ds, Ps ds → ds.length ≤ 100000 ∧ P (.tuple ds)) : EvR C (tTup ts) Γ P := fun B F H σ w g Q q =>
  h B F H σ w g _ fun vs F1 H1 ds g1 w1 ps r => by
    obtain ⟨hz, pp⟩ := hp ds ps
    exact ⟨by rw [r.length]; exact size_ok hz, fun p hp' => q _ _ _ (g1.trans (.new g1.fh hp')) (w1.grow (.new g1.fh hp')) ⟨.tuple ds, pp, .tup upd_same (r.mono (Sub.new (g1.fh.none hp')))⟩⟩
theorem ern_lst {Ps Pr : List PyData → Prop} (h : EvAR C ts Γ Ps) (hp : ∀ ds, Ps ds → ds.length ≤ 100000 ∧ Pr ds) : EnR C (tLst ts) Γ Pr := fun B F H σ w g Q q =>
  h B F H σ w g _ fun vs F1 H1 ds g1 w1 ps r => by
    obtain ⟨hz, pp⟩ := hp ds ps
    exact ⟨by rw [r.length]; exact size_ok hz, fun p hp' => q _ F1 _ (g1.trans (.newM g1.fh hp')) (w1.grow (.newM g1.fh hp')) ⟨p, vs, ds, rfl, g1.fresh' hp', g1.fh.none hp', fun z => w1.sH p z hp', upd_same, pp, r⟩⟩
/-- tuple(..), list(..) -/
theorem er_tuple {Ps : List PyData → Prop} (h : RsR C ta Γ Ps) (hp : ∀ ds, Ps ds → P (.tuple ds)) (hl : EnR C ta Γ Ps) : EvR C (tThen ta (kTup K)) Γ P := fun B F H σ w g Q q =>
  hl B F H σ w g _ fun v F1 H1 g1 w1 ⟨p, vs, ds, e, n, f, s, l, pp, r⟩ => by
    subst e
    exact .inl ⟨p, vs, rfl, SqL.of l, fun t ht => q _ _ _ (g1.trans (.new g1.fh ht)) (w1.grow (.new g1.fh ht)) ⟨.tuple ds, hp ds pp, .tup upd_same (r.mono (Sub.new (g1.fh.none ht)))⟩⟩
end

/-! ### comprehensions whose items are drawn -/
def WkS (S : List Addr) (J : It) (F1 H1 : Hp) (ds : List PyData) : Prop := ∀ F2 H2, Grow S F1 H1 F2 H2 →
  (∀ i d, ds[i]? = some d → J.go i H2 ∧ ∀ x H', J.yld i H2 x H' → ∃ F', Grow [] F2 H2 F' H' ∧ Rp F' x d) ∧ J.stop ds.length H2
def IterS (C : Pc) (wi : TI) (Γ : List Sl) (ds : List PyData) : Prop :=
  ∀ (B F H : Hp) (σ : L2.St), Wd C F H → Gm C B F H σ Γ → ∀ R : It → Hp → Prop, (∀ J F' H', Grow C.S F H F' H' → Wd C F' H' → WkS C.S J F' H' ds → R J H') → wi σ H R
theorem IterF.s {C : Pc} {wi : TI} {Γ : List Sl} {ds : List PyData} (h : IterF wi Γ ds) : IterS C wi Γ ds := fun B F H σ w g R r => h C B F H σ w g R fun J F1 H1 g1 k => r J F1 H1 g1.weak (w.grow g1) fun F2 H2 g2 => k F2 H2 g2.ff g2.fh
theorem is_own {C : Pc} {Γ : List Sl} {ds : List PyData} {K : PySem.W.Frag} {i : Nat} (h : Γ[i]? = some (.own ds)) : IterS C (iSeq K (tVar i)) Γ ds := fun B F H σ w g R r => by
  obtain ⟨p, vs, e, l, f, b, n, ra⟩ := g.ok i _ h
  exact ⟨_, e, p, rfl, .inl ⟨⟨vs, SqL.of l⟩, r _ F H (.refl w.sub) w fun F2 H2 g2 => wk_list g2.fh (g2.hh _ _ n l) (ra.mono g2.ff)⟩⟩
inductive Gen {α : Type} (Pt : α → Bool → Prop) (Pf : α → PyData → Prop) : List α → List PyData → Prop
  | nil : Gen Pt Pf [] []
  | skip {x : α} {xs : List α} {ds : List PyData} : Gen Pt Pf xs ds → Pt x false → Gen Pt Pf (xs ++ [x]) ds
  | take {x : α} {xs : List α} {d : PyData} {ds : List PyData} : Gen Pt Pf xs ds → Pt x true → Pf x d → Gen Pt Pf (xs ++ [x]) (ds ++ [d])
theorem Gen.le {α : Type} {Pt : α → Bool → Prop} {Pf : α → PyData → Prop} {xs : List α} {ds : List PyData} (h : Gen Pt Pf xs ds) : ds.length ≤ xs.length := by
  induction h with
  | nil => exact Nat.le_refl _
  | skip _ _ ih => rw [List.length_append]; exact Nat.le_trans ih (Nat.le_add_right _ _)
  | take _ _ _ ih => rw [List.length_append, List.length_append]; exact Nat.add_le_add_right ih _
section
variable {C : Pc} {te ta tb : TE} {tt tu : TT} {ts : TA} {Γ : List Sl} {d x y : PyData} {ds es : List PyData} {P P' : PyData → Prop} {K : PySem.W.Frag} {E : XK}
theorem en_lcR {α : Type} {xs : List α} {enc : α → PyData} {Pt : α → Bool → Prop} {Pf : α → PyData → Prop} {Pr : List PyData → Prop} {wi : TI} {g : TG} {vs : List Nat} {Γx : α → List Sl}
    (hi : IterS C wi Γ (xs.map enc)) (hz : xs.length ≤ 100000) (hg : ∀ x ∈ xs, TgD g vs (wipeG Γ vs) (enc x) (Γx x))
    (ht : ∀ x ∈ xs, EvTR C tt (Γx x) (Pt x)) (he : ∀ x ∈ xs, Pt x true → EvR C te (Γx x) (Pf x)) (hp : ∀ ds, Gen Pt Pf xs ds → Pr ds) : EnR C (tLc wi g tt te vs) Γ Pr := fun B F H σ w gm Q q =>
  hi B F H σ w gm _ fun J F1 H1 g1 w1 wk D hD => by
    have e1 := gm.grow g1
    have nS : D ∉ C.S := fun z => w1.sH D z hD
    have mv : ∀ {F' H' : Hp} {acc : List V}, Grow C.S F1 H1 F' H' → F' D = none → H1 D = none → Grow C.S F1 H1 F' (upd H' D (.lst acc)) := fun {F' H' acc} gg f3 hD =>
      ⟨gg.ff, fun a o e => by
        have z : a ≠ D := fun z => by subst z; rw [f3] at e; cases e
        rw [upd_ne z]; exact gg.fh a o e, fun a o n e => by
        have z : a ≠ D := fun z => by subst z; rw [hD] at e; cases e
        rw [upd_ne z]; exact gg.hh a o n e, fun a e => upd_th (gg.th a e), gg.nw⟩
    refine ⟨fun i m H' => i + m = xs.length ∧ ∃ F' acc ds, Grow C.S F1 H1 F' H' ∧ Wd C F' H' ∧ F' D = none ∧ H' D = some (.lst acc) ∧ RpAll F' acc ds ∧ Gen Pt Pf (xs.take i) ds,
      ⟨xs.length, by omega, F1, [], [], .newM g1.fh hD, w1.grow (.newM g1.fh hD), g1.fh.none hD, upd_same, .nil, .nil⟩, fun i m H' ⟨hm, F', acc, ds, g2, w2, hF, hH, ra, gen⟩ => ?_⟩
    by_cases hlt : i < xs.length
    · refine .inr ?_
      obtain ⟨x, hx⟩ : ∃ x, xs[i]? = some x := ⟨_, List.getElem?_eq_getElem hlt⟩
      have hmem : x ∈ xs := List.mem_of_getElem? hx
      have htk : xs.take (i + 1) = xs.take i ++ [x] := by rw [List.take_add_one, hx]; rfl
      obtain ⟨go, yl⟩ := (wk F' H' g2).1 i (enc x) (by rw [List.getElem?_map, hx]; rfl)
      refine ⟨go, fun H'' => ∃ F'' acc ds, Grow C.S F1 H1 F'' H'' ∧ Wd C F'' H'' ∧ F'' D = none ∧ H'' D = some (.lst acc) ∧ RpAll F'' acc ds ∧ Gen Pt Pf (xs.take (i + 1)) ds, fun H'' h'' => ⟨m - 1, by omega, by omega, h''⟩, fun v H'' y => ?_⟩
      obtain ⟨F'', g3, rv⟩ := yl v H'' y
      have g23 := g2.trans g3.weak
      have dF : F'' D = none := g3.nw D (by rw [hH]; exact fun z => nomatch z) hF
      refine hg x hmem C B F'' H'' (L2.wipe σ vs) v g3.fh ((e1.grow g23).wipe vs) rv _ fun σ' e2 hw => ⟨hw.trans (wipe_wipe σ vs), ?_⟩
      refine ht x hmem B F'' H'' σ' (w2.grow g3) e2 _ fun b F3 H3 g4 w4 pb => ?_
      have d3 : H3 D = some (.lst acc) := g4.hh _ _ nS (g3.sub _ _ hH)
      have f3 : F3 D = none := g4.nw D (by rw [g3.sub _ _ hH]; exact fun z => nomatch z) dF
      cases b with
      | true =>
        rw [if_pos rfl]
        refine he x hmem pb B F3 H3 σ' w4 (e2.grow g4) _ fun u F4 H4 g5 w5 ⟨d, pd, ru⟩ => ?_
        have gg := (g23.trans g4).trans g5
        have f4 : F4 D = none := g5.nw D (by rw [d3]; exact fun z => nomatch z) f3
        refine ⟨acc, g5.hh _ _ nS d3, ?_, F4, acc ++ [u], ds ++ [d], mv gg f4 hD, w5.mut nS f4, f4, upd_same, ?_, ?_⟩
        · rw [ra.length]
          exact Nat.lt_of_le_of_lt (Nat.le_trans gen.le (by rw [List.length_take]; exact Nat.le_trans (Nat.min_le_right _ _) hz)) (by decide)
        · exact (((ra.mono g3.ff).mono g4.ff).mono g5.ff).append (.one ru)
        · rw [htk]; exact .take gen pb pd
      | false =>
        rw [if_neg Bool.false_ne_true]
        refine ⟨F3, acc, ds, g23.trans g4, w4, f3, d3, (ra.mono g3.ff).mono g4.ff, ?_⟩
        rw [htk]; exact .skip gen pb
    · refine .inl ?_
      have ei : i = xs.length := by omega
      subst ei
      refine ⟨by have z := (wk F' H' g2).2; rw [List.length_map] at z; exact z, ?_⟩
      rw [List.take_length] at gen
      exact q _ F' H' (g1.trans g2) w2 ⟨D, acc, ds, rfl, g1.fresh' hD, hF, nS, hH, hp ds gen, ra⟩
theorem etr_yes : EvTR C tYes Γ (fun b => b = true) := fun B F H σ w g Q q => q true F H (.refl w.sub) w rfl
/-- item by item -/
def All2 {α : Type} (Pf : α → PyData → Prop) (xs : List α) (ds : List PyData) : Prop := ds.length = xs.length ∧ ∀ (i : Nat) (x : α) (d : PyData), xs[i]? = some x → ds[i]? = some d → Pf x d
theorem Gen.all {α : Type} {Pf : α → PyData → Prop} {xs : List α} {ds : List PyData} (h : Gen (fun _ b => b = true) Pf xs ds) : All2 Pf xs ds := by
  induction h with
  | nil => exact ⟨rfl, fun i x d e => by simp at e⟩
  | skip _ z _ => cases z
  | @take x xs d ds _ _ p ih =>
    refine ⟨by rw [List.length_append, List.length_append, ih.1]; rfl, fun i y e h1 h2 => ?_⟩
    by_cases hi : i < xs.length
    · rw [List.getElem?_append_left hi] at h1
      rw [List.getElem?_append_left (by rw [ih.1]; exact hi)] at h2
      exact ih.2 i y e h1 h2
    · rw [List.getElem?_append_right (by omega)] at h1
      rw [List.getElem?_append_right (by rw [ih.1]; omega), ih.1] at h2
      cases q : i - xs.length with
      | zero => rw [q] at h1 h2; cases h1; cases h2; exact p
      | succ n => rw [q] at h1; simp at h1
/-- without a test -/
theorem en_lcMR {α : Type} {xs : List α} {enc : α → PyData} {Pf : α → PyData → Prop} {Pr : List PyData → Prop} {wi : TI} {g : TG} {vs : List Nat} {Γx : α → List Sl}
    (hi : IterS C wi Γ (xs.map enc)) (hz : xs.length ≤ 100000) (hg : ∀ x ∈ xs, TgD g vs (wipeG Γ vs) (enc x) (Γx x))
    (he : ∀ x ∈ xs, EvR C te (Γx x) (Pf x)) (hp : ∀ ds, All2 Pf xs ds → Pr ds) : EnR C (tLc wi g tYes te vs) Γ Pr :=
  en_lcR (Pt := fun _ b => b = true) hi hz hg (fun _ _ => etr_yes) (fun x hx _ => he x hx) fun ds h => hp ds h.all
end

/-! ### draws -/
/-- a def that is handed a pool of the family Fm, and what it may hand back -/
def spD (Fm : Pc → Prop) (Pre : List PyData → Prop) (Post : List PyData → PyData → Prop) : Sp := fun vs H Q _ => ∃ C F ws ds, Fm C ∧ vs = .ref C.p :: ws ∧ Wd C F H ∧ RpAll F ws ds ∧ Pre ds ∧
  ∀ v F' H' d, Grow C.S F H F' H' → Wd C F' H' → Post ds d → Rp F' v d → Q v H'
/-- .. a new list -/
def spDN (Fm : Pc → Prop) (Pre : List PyData → Prop) (Post : List PyData → List PyData → Prop) : Sp := fun vs H Q _ => ∃ C F ws ds, Fm C ∧ vs = .ref C.p :: ws ∧ Wd C F H ∧ RpAll F ws ds ∧ Pre ds ∧
  ∀ p us F' H' es, Grow C.S F H F' H' → Wd C F' H' → Post ds es → H p = none → F' p = none → p ∉ C.S → H' p = some (.lst us) → RpAll F' us es → Q (.ref p) H'
section
variable {C : Pc} {te ta tb : TE} {tt tu : TT} {ts : TA} {Γ : List Sl} {d x y : PyData} {ds es : List PyData} {P P' : PyData → Prop} {K : PySem.W.Frag} {E : XK} {Fm : Pc → Prop} {i : Nat}
theorem er_call {Pre : List PyData → Prop} {Post : List PyData → PyData → Prop} {Pa : List PyData → Prop} (hf : Fm C) (hp : Γ[i]? = some .pool) (ha : EvAR C ts Γ Pa) (h : ∀ ds, Pa ds → Pre ds ∧ ∀ d, Post ds d → P d) :
    EvR C (tCall (spD Fm Pre Post) [] E (tCons (tVar i) ts)) Γ P := fun B F H σ w g Q q =>
  ⟨_, g.ok i _ hp, ha B F H σ w g _ fun vs F1 H1 ds g1 w1 pa r => ⟨C, F1, vs, ds, hf, by rw [List.append_nil], w1, r, (h ds pa).1, fun v F2 H2 d g2 w2 pd rv => q v F2 H2 (g1.trans g2) w2 ⟨d, (h ds pa).2 d pd, rv⟩⟩⟩
theorem ern_call {Pre : List PyData → Prop} {Post : List PyData → List PyData → Prop} {Pa Pr : List PyData → Prop} (hf : Fm C) (hp : Γ[i]? = some .pool) (ha : EvAR C ts Γ Pa) (h : ∀ ds, Pa ds → Pre ds ∧ ∀ d, Post ds d → Pr d) :
    EnR C (tCall (spDN Fm Pre Post) [] E (tCons (tVar i) ts)) Γ Pr := fun B F H σ w g Q q =>
  ⟨_, g.ok i _ hp, ha B F H σ w g _ fun vs F1 H1 ds g1 w1 pa r => ⟨C, F1, vs, ds, hf, by rw [List.append_nil], w1, r, (h ds pa).1, fun p us F2 H2 es g2 w2 pd hn hF hs hl rv => q _ F2 H2 (g1.trans g2) w2 ⟨p, us, es, rfl, g1.fresh' hn, hF, hs, hl, (h ds pa).2 es pd, rv⟩⟩⟩
/-- a def without draws, its arguments drawn -/
theorem er_callA {R : List PyData → Out → Prop} {Pa : List PyData → Prop} (ha : EvAR C ts Γ Pa) (h : ∀ ds, Pa ds → ∃ d, R ds (.ok d) ∧ P d) : EvR C (tCall (spR R) [] E ts) Γ P := fun B F H σ w g Q q =>
  ha B F H σ w g _ fun vs F1 H1 ds g1 w1 pa r => by
    obtain ⟨d, hR, pd⟩ := h ds pa
    exact ⟨F1, ds, .ok d, w1.sub, by rw [List.append_nil]; exact r, hR, fun d' e v F2 H2 g2 r2 => by cases e; exact q v F2 H2 (g1.trans g2.weak) (w1.grow g2) ⟨d, pd, r2⟩, fun c f e => nomatch e⟩
end

theorem spD_len {Fm : Pc → Prop} {Pre : List PyData → Prop} {Post : List PyData → PyData → Prop} {n : Nat} (h : ∀ ds, Pre ds → ds.length + 1 = n) : ∀ vs H Q E, spD Fm Pre Post vs H Q E → vs.length = n := fun vs H Q E ⟨C, F, ws, ds, _, e, _, r, p, _⟩ => by
  rw [e, List.length_cons, r.length]; exact h ds p
theorem spDN_len {Fm : Pc → Prop} {Pre : List PyData → Prop} {Post : List PyData → List PyData → Prop} {n : Nat} (h : ∀ ds, Pre ds → ds.length + 1 = n) : ∀ vs H Q E, spDN Fm Pre Post vs H Q E → vs.length = n := fun vs H Q E ⟨C, F, ws, ds, _, e, _, r, p, _⟩ => by
  rw [e, List.length_cons, r.length]; exact h ds p
/-! ### a def that draws, from its promise -/
def startP (n : Nat) (ds : List PyData) : List Sl := .pool :: (ds.map .dat ++ List.replicate (n - 1 - ds.length) .no)
theorem startP_gm {C : Pc} {F H : Hp} {ws : List V} {ds : List PyData} {N : List Str} (r : RpAll F ws ds) : Gm C H F H (L2.start N (.ref C.p :: ws)) (startP N.length ds) := by
  have hl := r.length
  have e : N.length - (1 + ws.length) = N.length - 1 - ds.length := by rw [hl]; omega
  refine ⟨by unfold L2.start startP; simp [hl]; omega, fun i s es => ?_, fun i j ds' es p e1 _ _ _ => ?_⟩
  · unfold startP at es
    cases i with
    | zero => cases es; rfl
    | succ i =>
      rw [List.getElem?_cons_succ] at es
      by_cases hi : i < ds.length
      · rw [List.getElem?_append_left (by simpa using hi), List.getElem?_map, List.getElem?_eq_getElem hi] at es
        cases es
        obtain ⟨v, h1, h2⟩ := r.get (List.getElem?_eq_getElem hi)
        refine ⟨v, ?_, h2⟩
        unfold L2.start
        rw [List.map_cons, List.cons_append, List.getElem?_cons_succ, List.getElem?_append_left (by simpa [hl] using hi), List.getElem?_map, h1]
        rfl
      · rw [List.getElem?_append_right (by simpa using hi), List.getElem?_replicate] at es
        split at es
        · cases es; trivial
        · cases es
  · exfalso
    unfold startP at e1
    cases i with
    | zero => cases e1
    | succ i =>
      rw [List.getElem?_cons_succ] at e1
      by_cases hi : i < ds.length
      · rw [List.getElem?_append_left (by simpa using hi), List.getElem?_map, List.getElem?_eq_getElem hi] at e1
        cases e1
      · rw [List.getElem?_append_right (by simpa using hi), List.getElem?_replicate] at e1
        split at e1 <;> cases e1
theorem spD_body {Fm : Pc → Prop} {Pre : List PyData → Prop} {Post : List PyData → PyData → Prop} {N : List Str} {t : XK → TS} {vs : List V} {H : Hp} {Q : VK} {E : XK} (h : spD Fm Pre Post vs H Q E)
    (hb : ∀ C ds, Fm C → Pre ds → ∀ (B F0 : Hp) (D : Ends), RetOk C B F0 D (Post ds) → At C B F0 (startP N.length ds) (t E D)) : t E { nx := fun _ H' => Q .non H', rt := Q } (L2.start N vs) H := by
  obtain ⟨C, F, ws, ds, hf, rfl, w, r, hp, hq⟩ := h
  exact hb C ds hf hp H F { nx := fun _ H' => Q .non H', rt := Q } (fun F1 H1 v d w1 g pd rv => hq v F1 H1 d g w1 pd rv) F H _ w (.refl w.sub) (startP_gm r)
theorem spDN_body {Fm : Pc → Prop} {Pre : List PyData → Prop} {Post : List PyData → List PyData → Prop} {N : List Str} {t : XK → TS} {vs : List V} {H : Hp} {Q : VK} {E : XK} (h : spDN Fm Pre Post vs H Q E)
    (hb : ∀ C ds, Fm C → Pre ds → ∀ (B F0 : Hp) (D : Ends), RetN C B F0 D (Post ds) → At C B F0 (startP N.length ds) (t E D)) : t E { nx := fun _ H' => Q .non H', rt := Q } (L2.start N vs) H := by
  obtain ⟨C, F, ws, ds, hf, rfl, w, r, hp, hq⟩ := h
  exact hb C ds hf hp H F { nx := fun _ H' => Q .non H', rt := Q } (fun F1 H1 p us es w1 g hb hF hs hl ra pd => hq p us F1 H1 es g w1 pd hb hF hs hl ra) F H _ w (.refl w.sub) (startP_gm r)

/-! ### statements -/
section
variable {C : Pc} {B F0 : Hp} {Γ : List Sl} {te ta tb : TE} {tt : TT} {t u : TS} {D : Ends} {i : Nat} {d : PyData} {ds es : List PyData} {P : PyData → Prop} {R : PyData → Prop} {RN : List PyData → Prop} {K : PySem.W.Frag}
theorem at_asgR (h : EvR C te Γ P) (k : ∀ d, P d → At C B F0 (Γ.set i (.dat d)) D.nx) : At C B F0 Γ (tAsg te (gName i) D) := fun F H σ w g e =>
  h B F H σ w e _ fun v F1 H1 g1 w1 ⟨d, pd, r⟩ => k d pd F1 H1 _ w1 (g.trans g1) ((e.grow g1).dat r)
theorem at_asgI {P : Int → Prop} (h : EvI C te Γ P) (k : ∀ j, P j → At C B F0 (Γ.set i (.dat (.int j))) D.nx) : At C B F0 Γ (tAsg te (gName i) D) := at_asgR h.r fun d ⟨j, pj, e⟩ => e ▸ k j pj
theorem at_asgNR {Pr : List PyData → Prop} (h : EnR C te Γ Pr) (k : ∀ ds, Pr ds → At C B F0 (Γ.set i (.own ds)) D.nx) : At C B F0 Γ (tAsg te (gName i) D) := fun F H σ w g e =>
  h B F H σ w e _ fun v F1 H1 g1 w1 ⟨p, vs, ds, ev, hn, hf, hs, hl, pp, r⟩ => by
    subst ev
    refine k ds pp F1 H1 _ w1 (g.trans g1) ((e.grow g1).set ⟨p, vs, rfl, hl, hf, g.fresh' hn, hs, r⟩ fun ds' _ j es q eq h1 h2 => ?_)
    cases eq
    obtain ⟨q, us, e1, h3, _⟩ := e.ok j _ h1
    rw [h2] at e1; cases e1
    rw [hn] at h3; cases h3
theorem at_ifR {Pb : Bool → Prop} (h : EvTR C tt Γ Pb) (h1 : Pb true → At C B F0 Γ (t D)) (h2 : Pb false → At C B F0 Γ (u D)) : At C B F0 Γ (tIfS tt t u D) := fun F H σ w g e =>
  h B F H σ w e _ fun b F1 H1 g1 w1 pb => by
    cases b with
    | true =>
      show t D σ H1
      exact h1 pb F1 H1 σ w1 (g.trans g1) (e.grow g1)
    | false =>
      show u D σ H1
      exact h2 pb F1 H1 σ w1 (g.trans g1) (e.grow g1)
theorem at_retR (hr : RetOk C B F0 D R) (h : EvR C te Γ P) (hd : ∀ d, P d → R d) : At C B F0 Γ (tRet te D) := fun F H σ w g e =>
  h B F H σ w e _ fun v F1 H1 g1 w1 ⟨d, pd, r⟩ => hr F1 H1 v d w1 (g.trans g1) (hd d pd) r
theorem at_retNR {Pr : List PyData → Prop} (hr : RetN C B F0 D RN) (h : EnR C te Γ Pr) (hd : ∀ ds, Pr ds → RN ds) : At C B F0 Γ (tRet te D) := fun F H σ w g e =>
  h B F H σ w e _ fun v F1 H1 g1 w1 ⟨p, vs, ds, ev, hn, hf, hs, hl, pp, r⟩ => by
    subst ev
    exact hr F1 H1 p vs ds w1 (g.trans g1) (g.fresh' hn) hf hs hl r (hd ds pp)
theorem at_appendR (hx : Γ[i]? = some (.own ds)) (hz : ds.length < 100000) (h : EvR C te Γ P) (k : ∀ d, P d → At C B F0 (Γ.set i (.own (ds ++ [d]))) D.nx) :
    At C B F0 Γ (tDrop (tBM K "list" rAppend (tVar i) (tCons te tNil)) D) := fun F H σ w g e => by
  obtain ⟨p, vs, e1, hl, hf, hb, hs, r⟩ := e.ok i _ hx
  refine ⟨_, e1, .inl ⟨rfl, vs, SqL.of hl⟩, h B F H σ w e _ fun v F1 H1 g1 w1 ⟨d, pd, rv⟩ => ?_⟩
  have hl1 := g1.hh _ _ hs hl
  have hf1 := g1.nw p (by rw [hl]; exact fun z => nomatch z) hf
  have g2 := g.trans g1
  have e2 : Gm C B F1 H1 σ Γ := e.grow g1
  exact ⟨p, vs, v, rfl, rfl, hl1, by rw [r.length]; exact size_lt hz, k d pd F1 _ σ (w1.mut hs hf1) (g2.mut hb hf1) (e2.mut hx e1 ((r.mono g1.ff).append (.one rv)))⟩
/-- own1.append(own2.pop(e)) -/
theorem at_popTo {j : Nat} {Pi : Int → Prop} (hx : Γ[i]? = some (.own ds)) (hy : Γ[j]? = some (.own es)) (hij : i ≠ j) (hz : ds.length < 100000) (h : EvI C te Γ Pi)
    (hk : ∀ n, Pi n → ∃ m : Nat, n = m ∧ m < es.length ∧ es.length < 100000) (k : ∀ m d, Pi (m : Nat) → es[m]? = some d → At C B F0 ((Γ.set j (.own (es.eraseIdx m))).set i (.own (ds ++ [d]))) D.nx) :
    At C B F0 Γ (tDrop (tBM K "list" rAppend (tVar i) (tCons (tBM K "list" rPopAt (tVar j) (tCons te tNil)) tNil)) D) := fun F H σ w g e => by
  obtain ⟨p, vs, e1, hl, hf, hb, hs, r⟩ := e.ok i _ hx
  obtain ⟨q, us, f1, kl, kf, kb, ks, rq⟩ := e.ok j _ hy
  refine ⟨_, e1, .inl ⟨rfl, vs, SqL.of hl⟩, _, f1, .inl ⟨rfl, us, SqL.of kl⟩, h B F H σ w e _ fun v F1 H1 g1 w1 ⟨n, pn, ev⟩ => ?_⟩
  subst ev
  obtain ⟨m, rfl, hm, hm2⟩ := hk n pn
  have npq : p ≠ q := fun z => hij (e.inj i j ds es p hx hy e1 (z ▸ f1))
  have e2 : Gm C B F1 H1 σ Γ := e.grow g1
  have kl1 := g1.hh _ _ ks kl
  have hl1 := g1.hh _ _ hs hl
  have rq1 := rq.mono g1.ff
  have hf1 := g1.nw p (by rw [hl]; exact fun z => nomatch z) hf
  have kf1 := g1.nw q (by rw [kl]; exact fun z => nomatch z) kf
  obtain ⟨d, hd⟩ : ∃ d, es[m]? = some d := ⟨_, List.getElem?_eq_getElem hm⟩
  obtain ⟨v, hv, rv⟩ := rq1.get hd
  refine ⟨q, us, (m : Nat), m, v, rfl, rfl, kl1, by omega, by omega, ?_, hv, ?_⟩
  · rw [rq.length]; exact seqIndex_of (by omega) (by omega)
  · refine ⟨p, vs, v, rfl, rfl, by rw [upd_ne npq]; exact hl1, by rw [r.length]; exact size_lt hz, ?_⟩
    have e3 := e2.mut hy f1 (rq1.eraseIdx m)
    have hx' : (Γ.set j (.own (es.eraseIdx m)))[i]? = some (.own ds) := by rw [List.getElem?_set_ne (Ne.symm hij)]; exact hx
    have g3 := (g.trans g1).mut (o := .lst (us.eraseIdx m)) kb kf1
    exact k m d pn hd F1 _ σ ((w1.mut ks kf1).mut hs hf1) (g3.mut hb hf1) (e3.mut hx' e1 ((r.mono g1.ff).append (.one rv)))
/-- own[e] = e' -/
theorem at_setR {Pi : Int → Prop} (hx : Γ[i]? = some (.own ds)) (h : EvR C te Γ P) (hi : EvI C tb Γ Pi) (hk : ∀ n, Pi n → ∃ k, ixN ds.length n = some k) (kk : ∀ d n k, P d → Pi n → ixN ds.length n = some k → At C B F0 (Γ.set i (.own (ds.set k d))) D.nx) :
    At C B F0 Γ (tAsg te (gSub (tVar i) tb rSetL) D) := fun F H σ w g e => by
  obtain ⟨p, vs, e1, hl, hf, hb, hs, r⟩ := e.ok i _ hx
  refine h B F H σ w e _ fun v F1 H1 g1 w1 ⟨d, pd, rv⟩ => ⟨_, e1, hi B F1 H1 σ w1 (e.grow g1) _ fun u F2 H2 g2 w2 ⟨n, pn, eu⟩ => ?_⟩
  subst eu
  obtain ⟨k, hk⟩ := hk n pn
  have g12 := g1.trans g2
  have hl1 := g12.hh _ _ hs hl
  have hf1 := g12.nw p (by rw [hl]; exact fun z => nomatch z) hf
  have gg := g.trans g12
  have e2 : Gm C B F2 H2 σ Γ := e.grow g12
  exact ⟨p, vs, n, k, rfl, rfl, hl1, by rw [r.length]; exact hk, kk d n k pd pn hk F2 _ σ (w2.mut hs hf1) (gg.mut hb hf1) (e2.mut hx e1 ((r.mono g12.ff).set k (rv.mono g2.ff)))⟩
/-- for, what is true at each turn -/
theorem at_forR {α : Type} {xs : List α} {enc : α → PyData} {wi : TI} {g : TG} {vs : List Nat} (Is : Nat → List Sl → Prop) (h0 : Is 0 Γ) (hi : IterF wi Γ (xs.map enc)) (Γx : α → List Sl → List Sl)
    (hg : ∀ i x Γ, xs[i]? = some x → Is i Γ → TgD g vs Γ (enc x) (Γx x Γ))
    (hb : ∀ i x Γ, xs[i]? = some x → Is i Γ → ∀ F1 H1, Grow C.S F0 B F1 H1 → ∀ D' : Ends, D'.rt = D.rt → (∀ Γ', Is (i + 1) Γ' → At C B F1 Γ' D'.nx) → (∀ Γ', Is (i + 1) Γ' → At C B F1 Γ' D'.ct) → D'.bk = D.nx → At C B F1 (Γx x Γ) (t D'))
    (hd : ∀ Γ, Is xs.length Γ → At C B F0 Γ D.nx) : At C B F0 Γ (tFor wi g t D) := fun F H σ w gr e =>
  hi C B F H σ w e _ fun J F1 H1 g1 wk => by
    have gb : Grow C.S F0 B F1 H1 := gr.trans g1.weak
    refine ⟨fun i m σ' H' => i + m = xs.length ∧ ∃ F' Γ', Is i Γ' ∧ Wd C F' H' ∧ Grow C.S F1 B F' H' ∧ Gm C B F' H' σ' Γ', ⟨xs.length, by omega, F1, Γ, h0, w.grow g1, gb.start, e.grow g1.weak⟩, fun i m σ' H' ⟨hm, F', Γ', is, w2, g2, e2⟩ => ?_⟩
    by_cases hlt : i < xs.length
    · refine .inr ?_
      obtain ⟨x, hx⟩ : ∃ x, xs[i]? = some x := ⟨_, List.getElem?_eq_getElem hlt⟩
      obtain ⟨go, yl⟩ := (wk F' H' g2.ff g2.fh).1 i (enc x) (by rw [List.getElem?_map, hx]; rfl)
      let N : L2.St → Hp → Prop := fun σ'' H'' => ∃ F'' Γ'', Is (i + 1) Γ'' ∧ Wd C F'' H'' ∧ Grow C.S F1 B F'' H'' ∧ Gm C B F'' H'' σ'' Γ''
      refine ⟨go, N, fun σ'' H'' h'' => ⟨m - 1, by omega, by omega, h''⟩, fun v H'' y => ?_⟩
      obtain ⟨F'', g3, rv⟩ := yl v H'' y
      refine hg i x Γ' hx is C B F'' H'' σ' v g3.fh (e2.grow g3.weak) rv _ fun σ3 e3 _ => ?_
      exact hb i x Γ' hx is F1 H1 gb { D with nx := N, ct := N, bk := D.nx } rfl (fun Γ2 is2 F H σ w g e => ⟨F, Γ2, is2, w, g, e⟩) (fun Γ2 is2 F H σ w g e => ⟨F, Γ2, is2, w, g, e⟩) rfl F'' H'' σ3 (w2.grow g3) (g2.trans g3.weak) e3
    · refine .inl ?_
      have ei : i = xs.length := by omega
      subst ei
      exact ⟨by have z := (wk F' H' g2.ff g2.fh).2; rw [List.length_map] at z; exact z, hd Γ' is F' H' σ' w2 (gb.chain g2) e2⟩
end
end Eh

namespace Eh
open PySem PySem.Spec PyProof.Rows L2

/-! ### isinstance -/
def tyS : PyData → String | .none => "NoneType" | .bool _ => "bool" | .int _ => "int" | .str _ => "str" | .list _ => "list" | .tuple _ => "tuple" | .dict _ => "dict"
def isIntD : PyData → Bool | .int _ => true | _ => false
def isBlD : PyData → Bool | .bool _ => true | _ => false
def isStrD : PyData → Bool | .str _ => true | _ => false
def isLstD : PyData → Bool | .list _ => true | _ => false
def isTupD : PyData → Bool | .tuple _ => true | _ => false
theorem Rp.ty {F H : Hp} {K : PySem.W.Frag} {v : V} {d : PyData} (r : Rp F v d) (s : Sub F H) : TyX K H v (.type (tyS d)) := by
  cases r with
  | non => exact .base .non
  | bl b => exact .base (.bl b)
  | int i => exact .base (.int i)
  | str x => exact .base (.str x)
  | lst h _ => exact .base (.lst (s _ _ h))
  | tup h _ => exact .base (.tup (s _ _ h))
  | dct h => exact .fDict (s _ _ h)
section
variable {te ta tb : TE} {Γ : List Sl} {d x y : PyData} {ds es : List PyData} {K : PySem.W.Frag} {ts : TA}
theorem ev_isi {T : String} {b : Bool} (h : EvD ta Γ d) (hk : kitB (tyS d) T = some b) : EvD (tCB (rIsi K) (tCons ta (tCons (tC (.ty T)) tNil))) Γ (.bool b) := fun C B F H σ w g Q q =>
  h C B F H σ w g _ fun v F1 H1 g1 r1 => ⟨v, .ty T, .type (tyS d), .type T, b, rfl, .ty T, Rp.ty r1 g1.fh, kit_ty hk, q _ F1 H1 g1 (.bl _)⟩
theorem ev_isiT2 {T U : String} {b c : Bool} (h : EvD ta Γ d) (hk : kitB (tyS d) T = some b) (hl : kitB (tyS d) U = some c) :
    EvD (tCB (rIsiT K) (tCons ta (tCons (tTup (tCons (tC (.ty T)) (tCons (tC (.ty U)) tNil))) tNil))) Γ (.bool (b || c)) := fun C B F H σ w g Q q =>
  h C B F H σ w g _ fun v F1 H1 g1 r1 => ⟨by show 2 ≤ sizeLine; decide, fun p hp =>
    ⟨v, p, [.ty T, .ty U], .type (tyS d), [.type T, .type U], b || c, rfl, upd_same, .cons (.ty T) (.cons (.ty U) .nil), Rp.ty r1 (g1.fh.trans (Sub.new hp)), by
      refine kitAny_cons (kit_ty hk) (fun e => ?_) (fun e => by rw [e]; rfl)
      refine kitAny_cons (kit_ty hl) (fun e2 => ?_) (fun e2 => by rw [e2, Bool.or_true])
      rw [e, e2]; rfl, q _ F1 _ (g1.trans (.newM g1.fh hp)) (.bl _)⟩⟩
end
theorem ty_none (d : PyData) : kitB (tyS d) "int" = some (isIntD d || isBlD d) := by cases d <;> kernel_rfl
theorem ty_bool (d : PyData) : kitB (tyS d) "bool" = some (isBlD d) := by cases d <;> kernel_rfl
theorem ty_str (d : PyData) : kitB (tyS d) "str" = some (isStrD d) := by cases d <;> kernel_rfl
theorem ty_list (d : PyData) : kitB (tyS d) "list" = some (isLstD d) := by cases d <;> kernel_rfl
theorem ty_tuple (d : PyData) : kitB (tyS d) "tuple" = some (isTupD d) := by cases d <;> kernel_rfl
section
variable {te ta tb : TE} {Γ : List Sl} {d x y : PyData} {ds es : List PyData} {K : PySem.W.Frag} {ts : TA} {w : World}
theorem ev_isInt (h : EvD ta Γ d) : EvD (tCB (rIsi K) (tCons ta (tCons (tC (.ty "int")) tNil))) Γ (.bool (isIntD d || isBlD d)) := ev_isi h (ty_none d)
theorem ev_isBl (h : EvD ta Γ d) : EvD (tCB (rIsi K) (tCons ta (tCons (tC (.ty "bool")) tNil))) Γ (.bool (isBlD d)) := ev_isi h (ty_bool d)
theorem ev_isStr (h : EvD ta Γ d) : EvD (tCB (rIsi K) (tCons ta (tCons (tC (.ty "str")) tNil))) Γ (.bool (isStrD d)) := ev_isi h (ty_str d)
theorem ev_isLst (h : EvD ta Γ d) : EvD (tCB (rIsi K) (tCons ta (tCons (tC (.ty "list")) tNil))) Γ (.bool (isLstD d)) := ev_isi h (ty_list d)
theorem ev_isTup (h : EvD ta Γ d) : EvD (tCB (rIsi K) (tCons ta (tCons (tC (.ty "tuple")) tNil))) Γ (.bool (isTupD d)) := ev_isi h (ty_tuple d)
theorem ev_isLT (h : EvD ta Γ d) : EvD (tCB (rIsiT K) (tCons ta (tCons (tTup (tCons (tC (.ty "list")) (tCons (tC (.ty "tuple")) tNil))) tNil))) Γ (.bool (isLstD d || isTupD d)) := ev_isiT2 h (ty_list d) (ty_tuple d)

/-! ### list(range(..)), tuple(range(..)) -/
theorem rpRg (F : Hp) (a b : Int) : RpAll F (rgV a b) ((List.range (b - a).toNat).map fun i : Nat => .int (a + i)) := by
  unfold rgV
  generalize List.range (b - a).toNat = l
  induction l with
  | nil => exact .nil
  | cons n l ih => exact .cons (.int _) ih
theorem rp_range (F : Hp) (n : Nat) : RpAll F (rgV 0 n) ((List.range n).map fun i : Nat => .int i) := by
  have h := rpRg F 0 (n : Int)
  rw [show ((n : Int) - 0).toNat = n by omega] at h
  have e : ((List.range n).map fun i : Nat => PyData.int (0 + (i : Int))) = (List.range n).map fun i : Nat => PyData.int i := List.map_congr_left fun i _ => by rw [Int.zero_add]
  rwa [e] at h
theorem en_lstRg {n : Nat} (h : EvD ta Γ (.int (n : Int))) (hn : n ≤ 100000) : EvN (tLstRg (tRg1 ta)) Γ ((List.range n).map fun i : Nat => .int i) := fun C B F H σ w g Q q =>
  h C B F H σ w g _ fun v F1 H1 g1 r1 => ⟨n, r1.int_inv, RgOk.of_le (by omega) (by omega) (by omega) (by omega), fun p hp => q _ F1 _ (g1.trans (.newM g1.fh hp)) ⟨p, _, rfl, g1.fresh hp, g1.fh.none hp, upd_same, rp_range F1 n⟩⟩
theorem ev_tupRg {n : Nat} (h : EvD ta Γ (.int (n : Int))) (hn : n ≤ 100000) : EvD (tTupRg (tRg1 ta)) Γ (.tuple ((List.range n).map fun i : Nat => .int i)) := fun C B F H σ w g Q q =>
  h C B F H σ w g _ fun v F1 H1 g1 r1 => ⟨n, r1.int_inv, RgOk.of_le (by omega) (by omega) (by omega) (by omega), fun p hp => q _ _ _ (g1.trans (.new g1.fh hp)) (.tup upd_same (rp_range _ n))⟩
theorem en_lstRg2 {i j : Int} (ha : EvD ta Γ (.int i)) (hb : EvD tb Γ (.int j)) (h0 : 0 ≤ i) (h1 : j ≤ 100000) (h2 : i ≤ 100000) (h3 : 0 ≤ j) : EvN (tLstRg (tRg2 ta tb)) Γ ((List.range (j - i).toNat).map fun k : Nat => .int (i + k)) := fun C B F H σ w g Q q =>
  ha C B F H σ w g _ fun v F1 H1 g1 r1 => hb C B F1 H1 σ (w.grow g1) (g.grow g1.weak) _ fun u F2 H2 g2 r2 =>
    ⟨i, j, r1.int_inv, r2.int_inv, RgOk.of_le (by omega) (by omega) (by omega) (by omega), fun p hp => q _ F2 _ ((g1.trans g2).trans (.newM g2.fh hp)) ⟨p, _, rfl, (g1.trans g2).fresh hp, g2.fh.none hp, upd_same, rpRg F2 i j⟩⟩
theorem ev_tupRg2 {i j : Int} (ha : EvD ta Γ (.int i)) (hb : EvD tb Γ (.int j)) (h0 : 0 ≤ i) (h1 : j ≤ 100000) (h2 : i ≤ 100000) (h3 : 0 ≤ j) : EvD (tTupRg (tRg2 ta tb)) Γ (.tuple ((List.range (j - i).toNat).map fun k : Nat => .int (i + k))) := fun C B F H σ w g Q q =>
  ha C B F H σ w g _ fun v F1 H1 g1 r1 => hb C B F1 H1 σ (w.grow g1) (g.grow g1.weak) _ fun u F2 H2 g2 r2 =>
    ⟨i, j, r1.int_inv, r2.int_inv, RgOk.of_le (by omega) (by omega) (by omega) (by omega), fun p hp => q _ _ _ ((g1.trans g2).trans (.new g2.fh hp)) (.tup upd_same (rpRg _ i j))⟩

/-! ### in -/
theorem ev_inA (ha : EvD ta Γ x) (hb : RdS tb Γ ds) (h : flatD x = true) (k : ds.all flatD = true) : EvD (tOp (rInA K) ta tb) Γ (.bool (ds.any fun z => PyData.eqv z x)) :=
  ev_opDS ha hb fun F0 H0 F H v p us g0 rv hp r Q q => by
    refine .inl ⟨p, us, rfl, hp.imp SqL.of SqT.of, rv.flat h, r.flatD k, ?_⟩
    rw [inV_eqv rv r h k]
    exact q _ F H (.refl g0.fh) (.bl _)
theorem ev_niA (ha : EvD ta Γ x) (hb : RdS tb Γ ds) (h : flatD x = true) (k : ds.all flatD = true) : EvD (tOp (rNiA K) ta tb) Γ (.bool (!(ds.any fun z => PyData.eqv z x))) :=
  ev_opDS ha hb fun F0 H0 F H v p us g0 rv hp r Q q => by
    refine .inl ⟨p, us, rfl, hp.imp SqL.of SqT.of, rv.flat h, r.flatD k, ?_⟩
    rw [inV_eqv rv r h k]
    exact q _ F H (.refl g0.fh) (.bl _)
theorem ev_inAI {ns : List Int} {k : Int} (ha : EvD ta Γ (.int k)) (hb : RdS tb Γ (ns.map .int)) : EvD (tOp (rInA K) ta tb) Γ (.bool (decide (k ∈ ns))) := (ev_inA ha hb rfl (flat_ints ns)).is (by rw [any_ints])
theorem ev_niAI {ns : List Int} {k : Int} (ha : EvD ta Γ (.int k)) (hb : RdS tb Γ (ns.map .int)) : EvD (tOp (rNiA K) ta tb) Γ (.bool (!decide (k ∈ ns))) := (ev_niA ha hb rfl (flat_ints ns)).is (by rw [any_ints])
theorem ev_inAN {ns : List Nat} {k : Nat} (ha : EvD ta Γ (.int k)) (hb : RdS tb Γ (ns.map fun n : Nat => .int n)) : EvD (tOp (rInA K) ta tb) Γ (.bool (decide (k ∈ ns))) := (ev_inA ha hb rfl (flat_nats ns)).is (by rw [any_nats])
theorem ev_niAN {ns : List Nat} {k : Nat} (ha : EvD ta Γ (.int k)) (hb : RdS tb Γ (ns.map fun n : Nat => .int n)) : EvD (tOp (rNiA K) ta tb) Γ (.bool (!decide (k ∈ ns))) := (ev_niA ha hb rfl (flat_nats ns)).is (by rw [any_nats])
/-- .. of any depth, in a list -/
theorem ev_inAD (ha : EvD ta Γ x) (hb : EvD tb Γ (.list ds)) (h : SeqAt.shaped x = true) (k : SeqAt.shaped (.list ds) = true) : EvD (tOp (rInA K) ta tb) Γ (.bool (ds.any fun z => PyData.eqv z x)) :=
  ev_op ha hb fun F H v u s r1 r2 Q q => .inr ⟨x, ds, (r1.mono s).dp h, (r2.mono s).dp k, h, k, q _ F H (.refl s) (.bl _)⟩
theorem ev_niAD (ha : EvD ta Γ x) (hb : EvD tb Γ (.list ds)) (h : SeqAt.shaped x = true) (k : SeqAt.shaped (.list ds) = true) : EvD (tOp (rNiA K) ta tb) Γ (.bool (!ds.any fun z => PyData.eqv z x)) :=
  ev_op ha hb fun F H v u s r1 r2 Q q => .inr ⟨x, ds, (r1.mono s).dp h, (r2.mono s).dp k, h, k, q _ F H (.refl s) (.bl _)⟩

/-! ### sorted(set(tuple of ints)) -/
theorem srt_unique : ∀ {xs ys : List Int}, xs.Pairwise (· < ·) → ys.Pairwise (· < ·) → (∀ k, k ∈ xs ↔ k ∈ ys) → xs = ys
  | [], [], _, _, _ => rfl
  | [], y :: ys, _, _, h => absurd ((h y).mpr List.mem_cons_self) List.not_mem_nil
  | x :: xs, [], _, _, h => absurd ((h x).mp List.mem_cons_self) List.not_mem_nil
  | x :: xs, y :: ys, hx, hy, h => by
    rw [List.pairwise_cons] at hx hy
    have e : x = y := by
      rcases List.mem_cons.mp ((h x).mp List.mem_cons_self) with e | e
      · exact e
      · rcases List.mem_cons.mp ((h y).mpr List.mem_cons_self) with f | f
        · exact f.symm
        · have := hx.1 y f; have := hy.1 x e; omega
    subst e
    rw [srt_unique hx.2 hy.2 fun k => ⟨fun m => ?_, fun m => ?_⟩]
    · rcases List.mem_cons.mp ((h k).mp (List.mem_cons_of_mem _ m)) with e | e
      · have := hx.1 k m; omega
      · exact e
    · rcases List.mem_cons.mp ((h k).mpr (List.mem_cons_of_mem _ m)) with e | e
      · have := hy.1 k m; omega
      · exact e
def rSetT (K : PySem.W.Frag) (w : World) : List V → Hp → VK → Prop := fun vs H Q => ∃ (p : Addr) (ns : List Int), vs = [.ref p] ∧ SqT K H p (ns.map V.int) ∧ ns.length ≤ 1000 ∧
  ∀ q n, n ≤ ns.length → H q = none → Q (.ref q) (upd H q (SetO w q (fun j => decide (j ∈ ns)) n))
theorem cr_setT {X : Cx} (hc : X.calm = true) : CallR X (.type "set") (rSetT X.K X.w) := by
  intro pins s σ H vs us Q I r h
  obtain ⟨p, ns, rfl, hq, hl, q⟩ := h
  rw [Vals.ref1 r]
  obtain ⟨its, rv, pt, hz⟩ := I.tuple hq
  have hi : IntsAre its.toArray.toList ns := ints_of_vals rv
  refine call_set_tupI ns (I.ok.hd hc) (show s.heap.IsTuple p its.toArray from pt) hi (by unfold scanBound; omega) fun h' tk c R1 hcn k => ?_
  exact ⟨.ref _, upd H s.heap.objs.size (SetO X.w s.heap.objs.size (fun j => decide (j ∈ ns)) c), I.laid (t' := tk) k (Nat.le_refl _) (setO_new R1), rfl, q _ c hcn (I.hok.fresh (Nat.le_refl _))⟩
theorem en_sortedSet {ns ms : List Int} (h : EvD ta Γ (.tuple (ns.map .int))) (hz : ns.length < 64) (h1 : ms.Pairwise (· < ·)) (h2 : ∀ k, k ∈ ms ↔ k ∈ ns) : EvN (tCB (rSortedSet w) (tCons (tCB (rSetT K w) (tCons ta tNil)) tNil)) Γ (ms.map .int) := fun C B F H σ wd g Q q =>
  h C B F H σ wd g _ fun v F1 H1 g1 r1 => by
    obtain ⟨p, vs, rfl, f, ra⟩ := r1.tup_inv
    refine ⟨p, ns, rfl, SqT.of (by rw [g1.fh _ _ f, ra.ints]), by omega, fun p' n hn hp' => ?_⟩
    refine ⟨p', _, n, rfl, upd_same, by omega, fun ns' l hs hm hl hn' => ?_⟩
    have g2 := g1.trans (.newM (o := SetO w p' (fun j => decide (j ∈ ns)) n) g1.fh hp')
    have e : ns' = ms := srt_unique hs h1 fun k => by rw [hm k, decide_eq_true_eq, h2 k]
    subst e
    exact q _ F1 _ (g2.trans (.newM g2.fh hn')) ⟨l, _, rfl, g2.fresh hn', g2.fh.none hn', upd_same, .of_ints _⟩
end
end Eh

namespace Eh
open PySem PySem.Spec PyProof.Rows L2 RT

theorem nolen_rt : typeLookup (.type "reversed") "__len__" = pure none := by rw [typeLookup_type, builtinLookup_eq_fast]; kernel_rfl
theorem hint_rt : typeLookup (.type "reversed") "__length_hint__" = pure (some (.builtin "reversed.__length_hint__")) := by rw [typeLookup_type, builtinLookup_eq_fast]; kernel_rfl
section
variable {prog : Program} {w : World} {A : Around} {E : Value → Shared → Prop} {s : Shared}
theorem walksRt (hh : A.handled = none) (I l : Addr) (hne : l ≠ I) (items : Array Value) (hz : items.size ≤ sizeLine) :
    Walks prog w A I [I, l] [I] items.size (fun i v => items[items.size - 1 - i]? = some v) (fun i h => i ≤ items.size ∧ IsRt h I l ((items.size : Int) - 1 - (i : Int)) ∧ IsTup h l items) where
  sub := fun b hb => by simp at hb; simp [hb]
  frame := fun _ _ _ x hk => ⟨x.1, x.2.1.at fun o e => hk I (by simp) o e, let ⟨o, ho, r⟩ := x.2.2; ⟨o, hk l (by simp) o ho, r⟩⟩
  item := fun i s Q E hi x hQ => by
    have e : (items.size : Int) - 1 - (i : Int) = ((items.size - 1 - i : Nat) : Int) := by omega
    have hit := x.2.1
    rw [e] at hit
    have hx : items[items.size - 1 - i]? = some (items[items.size - 1 - i]'(by omega)) := Array.getElem?_eq_getElem (by omega)
    refine next_rt_item hit x.2.2 hx hz fun h' hit' hs' => ?_
    have e2 : ((items.size - 1 - i : Nat) : Int) - 1 = (items.size : Int) - 1 - ((i + 1 : Nat) : Int) := by omega
    rw [e2] at hit'
    exact hQ _ h' (s.toks + 1) hx ⟨hi, hit', let ⟨o, ho, r⟩ := x.2.2; ⟨o, (hs'.2 l hne).trans ho, r⟩⟩ fun b o hb eo => hs'.extBut b o (fun h => hb (by simp [h])) eo
  done := fun s Q E x hQ => by
    have e : (items.size : Int) - 1 - (items.size : Int) = -1 := by omega
    have hit := x.2.1
    rw [e] at hit
    exact next_rt_end hh hit fun h' eb => hQ h' s.toks fun b o hb eo => eb b o (fun h => hb (by simp [h])) eo
  self := fun i s Q E st h => iter_rt st.2.1 h
/-- lists filled from an iterator it of the type T -/
theorem extend_it {R : Result → Shared → Prop} {it : Addr} {fp wr : List Addr} {n : Nat} {P : Nat → Value → Prop} {St : Nat → Heap → Prop} {T : String} (W : Walks prog w A.in1 it fp wr n P St) (hn : n ≤ sizeLine)
    (hT : s.TypeIs (.ref it) T) (h2 : (Value.type T == Value.type "list") = false) (h3 : (Value.type T == Value.type "tuple") = false)
    (hhint : ∀ (Q : Bool → Shared → Prop) (E : Value → Shared → Prop), (∀ b tk, Q b { s with toks := tk }) → wpAny (model prog w) A.in1 (Builtin.List.listLengthHint (.ref it)) Q E s)
    (S : Addr) (res : Value) (c₀ : Nat) (hS : s.heap.get? S = some { cls := .type "list", dict := none, data := .seq #[] c₀, slots := #[] }) (hSf : S ∉ fp) (st : St 0 s.heap) (hi : it ∈ fp)
    (hR : ∀ h' tk acc' c', (∀ b o, b ≠ S → b ∉ wr → s.heap.get? b = some o → h'.get? b = some o) → h'.get? S = some { cls := .type "list", dict := none, data := .seq acc' c', slots := #[] } →
      ItemsOf P acc' n → R (.ok (.ret res)) { s with heap := h', toks := tk }) :
    wpAny (model prog w) A.in1 (Builtin.List.listExtendWith (.ref S) (.ref it) res)
      (fun fin s' => match fin with | .done f => R (.ok f) s' | .again c' => c'.quiet = true ∧ codeAny (model prog w) A c' R s') (fun e s' => R (.error e) s') s := by
  have hSr : S ≠ it := fun e => hSf (e ▸ hi)
  have key : ∀ (h : Heap) (c₁ tk : Nat), St 0 h → (∀ b o, b ≠ S → s.heap.get? b = some o → h.get? b = some o) →
      h.get? S = some { cls := .type "list", dict := none, data := .seq #[] c₁, slots := #[] } → codeAny (model prog w) A (.builtin "list.extend.loop" ⟨[.ref S, .ref it, res], []⟩) R { s with heap := h, toks := tk } := by
    intro h c₁ tk st hk hS₁
    refine codeAny_extend_loopS W.toS hn S hSf res n 0 _ #[] c₁ rfl (Nat.zero_le _) st hS₁ (ItemsOf.nil _) fun s' acc' c' hm hS' hacc => ?_
    rw [Moved.eq_with hm]
    exact hR s'.heap s'.toks acc' c' (fun b o hb hw e => hm.heap b o (fun hmem => (List.mem_cons.mp hmem).elim hb hw) (hk b o hb e)) hS' hacc
  unfold Builtin.List.listExtendWith
  refine wpAny_bind (wpAny_typeOf hT ?_)
  have h1 : Builtin.List.listSameRef (.ref S) (.ref it) = false := by simp [Builtin.List.listSameRef, hSr]
  simp only [h1, h2, h3, Bool.or_false, Bool.false_eq_true, if_false]
  refine wpAny_bind (W.self 0 s _ _ st ?_)
  refine wpAny_bind (wpAny_holding (hhint _ _ fun b tk => ?_))
  refine wpAny_ite_split (fun _ => ?_) (fun _ => wpAny_pure ⟨plainId_quiet F.plain_extend_loop _, key _ c₀ _ st (fun b o _ e => e) hS⟩)
  refine wpAny_bind (wpAny_rule ?_)
  refine wpAny_bind ?_
  show wpAny _ _ (updateSeq S (·.push .none) >>= fun _ => updateSeq S (·.pop)) _ _ _
  refine wpAny_bind (wpAny_updateSeq hS rfl ?_)
  have hS₂ := Heap.get?_update_self (Obj.mapSeq (·.push Value.none)) hS rfl
  refine wpAny_updateSeq (hz := by seq_fits) hS₂ rfl ?_
  have hS₃ := Heap.get?_update_self (Obj.mapSeq (·.pop)) hS₂ rfl
  have oth : ∀ b o, b ≠ S → s.heap.get? b = some o → ((s.heap.update S (Obj.mapSeq (·.push Value.none))).update S (Obj.mapSeq (·.pop))).get? b = some o := fun b o hb e =>
    (Heap.get?_update_other _ _ (Ne.symm hb)).trans ((Heap.get?_update_other _ _ (Ne.symm hb)).trans e)
  exact wpAny_pure ⟨plainId_quiet F.plain_extend_loop _, key _ _ _ (W.frame 0 _ _ st fun b hb o e => oth b o (fun z => hSf (z ▸ hb)) e) oth hS₃⟩
theorem call_list_it {it : Addr} {fp wr : List Addr} {n : Nat} {P : Nat → Value → Prop} {St : Nat → Heap → Prop} {T : String} {Q : Value → Shared → Prop} (W : ∀ A : Around, A.handled = none → Walks prog w A it fp wr n P St) (hh : A.handled = none) (hn : n ≤ sizeLine)
    (hT : s.TypeIs (.ref it) T) (h2 : (Value.type T == Value.type "list") = false) (h3 : (Value.type T == Value.type "tuple") = false)
    (hhint : ∀ (A : Around) (s' : Shared) (Q : Bool → Shared → Prop) (E : Value → Shared → Prop), St 0 s'.heap → (∀ b tk, Q b { s' with toks := tk }) → wpAny (model prog w) A (Builtin.List.listLengthHint (.ref it)) Q E s')
    (st : St 0 s.heap) (hi : it ∈ fp) (hf : ∀ b ∈ fp, b < s.heap.objs.size)
    (hQ : ∀ h' tk acc' c', (∀ b o, b ∉ wr → s.heap.get? b = some o → h'.get? b = some o) →
      h'.get? s.heap.objs.size = some { cls := .type "list", dict := none, data := .seq acc' c', slots := #[] } → ItemsOf P acc' n → Q (.ref s.heap.objs.size) { s with heap := h', toks := tk }) :
    wpAny (model prog w) A (call (.type "list") [.ref it]) Q E s := by
  refine callType_codes (Q₁ := fun obj s₁ => obj = .ref s.heap.objs.size ∧ s₁ = { s with heap := s.heap.push { cls := .type "list", data := .seq #[] } }) F.called_list (F.typeCall_list_1 _) F.entry_list_init
    (code_list_new _ ⟨rfl, rfl⟩) fun obj s₁ h₁ => ?_
  obtain ⟨rfl, rfl⟩ := h₁
  have hS : (s.heap.push { cls := .type "list", data := .seq #[] }).get? s.heap.objs.size = some { cls := .type "list", data := .seq #[] } := Heap.get?_push_size _ rfl
  have hSn : s.heap.objs.size ∉ fp := fun z => Nat.lt_irrefl _ (hf _ z)
  refine ⟨⟨_, hS, rfl⟩, F.args_list_init_2 _ _, ?_⟩
  show wpAny _ _ (do let old ← Builtin.List.listItems (.ref s.heap.objs.size); Builtin.List.listUpdate (.ref s.heap.objs.size) (fun _ => #[]); letGo old.toList.reverse; Builtin.List.listExtendWith (.ref s.heap.objs.size) (.ref it) .none) _ _ _
  refine wpAny_bind ?_
  unfold Builtin.List.listItems
  refine wpAny_bind (wpAny_seqItems hS rfl (wpAny_pure ?_))
  show wpAny _ _ (updateSeq s.heap.objs.size (fun _ => #[]) >>= fun _ => letGo (#[] : Array Value).toList.reverse >>= fun _ => Builtin.List.listExtendWith (.ref s.heap.objs.size) (.ref it) .none) _ _ _
  refine wpAny_bind (wpAny_updateSeq hS rfl ?_)
  have hS₂ := Heap.get?_update_self (Obj.mapSeq (fun _ => (#[] : Array Value))) hS rfl
  have oth : ∀ b o, b ≠ s.heap.objs.size → s.heap.get? b = some o → ((s.heap.push { cls := .type "list", data := .seq #[] }).update s.heap.objs.size (Obj.mapSeq (fun _ => (#[] : Array Value)))).get? b = some o :=
    fun b o hb e => (Heap.get?_update_other _ _ (Ne.symm hb)).trans (Heap.get?_push_of_some _ e)
  refine wpAny_bind (wpAny_letGo ?_)
  obtain ⟨oi, hoi, hci⟩ := id hT
  have hT2 : ({ s with heap := (s.heap.push { cls := .type "list", data := .seq #[] }).update s.heap.objs.size (Obj.mapSeq (fun _ => (#[] : Array Value))) } : Shared).TypeIs (.ref it) T := ⟨oi, oth it oi (Nat.ne_of_lt (hf it hi)) hoi, hci⟩
  have st2 := (W A hh).frame 0 s.heap _ st fun b hb o e => oth b o (Nat.ne_of_lt (hf b hb)) e
  refine extend_it (A := A.in1) (T := T) (W _ hh) hn hT2 h2 h3 (fun Q E q => hhint _ _ Q E st2 q) _ _ _ hS₂ hSn st2 hi fun h' tk acc' c' hk hS' hacc => ?_
  exact ⟨rfl, hQ h' tk acc' c' (fun b o hb e => hk b o (Nat.ne_of_lt (Heap.lt_size e)) hb (oth b o (Nat.ne_of_lt (Heap.lt_size e)) e)) hS' hacc⟩
theorem slot_rt_hint : Slot "reversed" "__length_hint__" "reversed.__length_hint__" :=
  .of (owner := "reversed") (n := "__length_hint__") (by rw [typeLookup_type, builtinLookup_eq_fast]; kernel_rfl) (by decide +kernel) (by decide +kernel) (by decide +kernel)
    (by first | exact .inl (by decide +kernel) | exact .inr (by decide +kernel)) (by rw [isSubtype_type]; kernel_rfl)
theorem entry_rt_hint : entryFor table "reversed.__length_hint__" = some Builtin.«reversed.__length_hint__» := entryFor_of_tree (by kernel_rfl)
theorem args_rt_hint (a : Value) : argsOk "reversed.__length_hint__" ⟨[a], []⟩ := by
  unfold argsOk; rw [signature?_of (id := "reversed.__length_hint__") (n := "__length_hint__".toList.reverse) (o := ['d', 'e', 's', 'r', 'e', 'v', 'e', 'r']) (by kernel_rfl) owner_rt]; kernel_rfl
theorem hintRt {it l : Addr} {items : Array Value} {Q : Bool → Shared → Prop} (hit : IsRt s.heap it l ((items.size : Int) - 1)) (ht : IsTup s.heap l items) (hz : items.size ≤ 16777216)
    (hlen : ∀ (A : Around) (E : Value → Shared → Prop) (s' : Shared) (Q : Value → Shared → Prop), IsTup s'.heap l items → (∀ tk tk', Q (.int items.size tk) { s' with toks := tk' }) → wpAny (model prog w) A (call (.builtin "len") [.ref l]) Q E s')
    (q : ∀ b tk, Q b { s with toks := tk }) : wpAny (model prog w) A (Builtin.List.listLengthHint (.ref it)) Q E s := by
  have hT := hit.typeIs
  obtain ⟨o, ho, hc, hd⟩ := id hit
  unfold Builtin.List.listLengthHint
  refine wpAny_bind (wpAny_specialOf hT nolen_rt ?_)
  show wpAny _ A (specialOf (Value.ref it) (Str.ofString "__length_hint__") >>= _) _ _ _
  refine wpAny_bind (wpAny_specialOf hT hint_rt ?_)
  generalize hid : ("reversed.__length_hint__" : String) = id0
  wp_delta
  rw [show splitId id0 = some ("reversed", "__length_hint__") from by subst hid; decide +kernel]
  subst hid
  refine wpAny_bind (wpAny_isInstance (b := true) hT (by rw [isSubtype_type]; kernel_rfl) ?_)
  refine wpAny_ite_split (fun hab => absurd hab (by decide)) (fun _ => ?_)
  refine wpAny_ite_split (fun hab => absurd hab (by decide +kernel)) (fun _ => ?_)
  refine wpAny_bind (wpAny_rule ?_)
  refine wpAny_bind (wpAny_of_eq (slot_rt_hint.bind _) ?_)
  try dsimp only
  refine wpAny_bind (wpAny_attempt (wpAny_call_entry slot_rt_hint hT entry_rt_hint ?_ (args_rt_hint _)))
  unfold Builtin.«reversed.__length_hint__»
  refine wpAny_bind (wpAny_of_eq (a := Value.ref it) rfl ?_)
  refine wpAny_bind (wpAny_field ho hd (x := .ref l) rfl ?_)
  try dsimp only
  rw [if_neg (show ¬ ((Value.ref l == Value.none) = true) from by simp)]
  refine wpAny_bind (hlen _ _ s _ ht fun tk tk' => ?_)
  refine wpAny_bind (wpAny_of_eq (a := some ((items.size : Nat) : Int)) rfl ?_)
  try dsimp only
  refine wpAny_bind (wpAny_field (s := { s with toks := tk' }) ho hd (x := rawInt ((items.size : Int) - 1)) rfl ?_)
  show wpAny _ _ (if (items.size : Int) < (items.size : Int) - 1 + 1 then _ else _) _ _ _
  rw [if_neg (by omega)]
  refine wpAny_bind (wpAny_mkInt (wpAny_pure ?_))
  refine ⟨_, rfl, ?_⟩
  show wpAny _ A (asInt? (Value.int ((items.size : Int) - 1 + 1) tk') >>= _) _ _ _
  refine wpAny_bind (wpAny_of_eq (a := some ((items.size : Int) - 1 + 1)) rfl ?_)
  have e0 : (items.size : Int) - 1 + 1 = (items.size : Int) := by omega
  rw [e0]
  have f1 : Builtin.List.listFitsIndex (items.size : Int) = true := by
    unfold Builtin.List.listFitsIndex
    rw [Bool.and_eq_true]
    exact ⟨decide_eq_true (by omega), decide_eq_true (by omega)⟩
  have hsl : items.size ≤ sizeLine := by rw [sizeLine_eq]; omega
  have htl : Builtin.List.listTooLong ((items.size : Int).toNat) = false := by
    unfold Builtin.List.listTooLong
    exact decide_eq_false (by rw [Int.toNat_natCast]; exact Nat.not_lt.mpr hsl)
  dsimp only
  rw [f1, if_neg (by decide), if_neg (show ¬ ((items.size : Int) < 0) by omega), htl, if_neg Bool.false_ne_true]
  exact wpAny_pure (q _ _)
end
/-- list(reversed(x)), x a tuple -/
def tListRevT (K : PySem.W.Frag) (te : TE) : TE := fun σ H Q => te σ H fun v H1 => ∃ (a : Addr) (xs : List V), v = .ref a ∧ SqT K H1 a xs ∧ xs.length ≤ 100000 ∧ ∀ q, H1 q = none → Q (.ref q) (upd H1 q (.lst xs.reverse))
theorem pe_listRevT {X : Cx} {e : Expr} {te : TE} {p p2 pos pos2 : Pos} (hc : X.calm = true) (hg : Gl X "list") (hm : X.mg "list" = none) (hg2 : Gl X "reversed") (hm2 : X.mg "reversed" = none) (he : PE X e te)
    (hs : starEach [e] X.env = (false, eval e X.env) :: starEach [] X.env := by rfl)
    (hs2 : starEach [.Call (.Name "reversed" p2) [e] [] pos2] X.env = (false, eval (.Call (.Name "reversed" p2) [e] [] pos2) X.env) :: starEach [] X.env := by rfl) :
    PE X (.Call (.Name "list" p) [.Call (.Name "reversed" p2) [e] [] pos2] [] pos) (tListRevT X.K te) := by
  refine ⟨fun pins s σ H Q I h => ?_⟩
  refine Call_ (ld_blt I hg hm boot_list (PyProof.Rows.callWith_type1 (args_cons (Call_ (ld_blt I hg2 hm2 PyProof.Rows.boot_reversed (PyProof.Rows.callWith_type1 (args_cons (thn (he.run pins s σ H _ I h) fun u s1 ⟨v, H1, I1, r1, q1⟩ => args_nil ?_) hs) hs rfl))) hs2) hs2 rfl))
  obtain ⟨a, xs, ev, hq, hlen, q⟩ := q1
  subst ev
  obtain rfl : u = Value.ref a := r1
  obtain ⟨its, rv, p', hz⟩ := I1.tuple hq
  have hl := rv.length
  have hn63 := line63
  refine call_reversed_tup p' (fun A E Q k => len_tuple p' (by simp only [List.size_toArray] <;> omega) k) (args_nil ?_)
  have k0 : ∀ b o, s1.heap.get? b = some o → (s1.heap.push (rtObj a ((its.toArray.size : Int) - 1))).get? b = some o := fun b o e => Heap.get?_push_of_some _ e
  have I2 : Inv X pins σ H1 { s1 with heap := s1.heap.push (rtObj a ((its.toArray.size : Int) - 1)), toks := s1.toks + 1 + 1 } := I1.kept (t' := s1.toks + 1 + 1) k0
  obtain ⟨f0, f1, f2, f3, f4, f5⟩ := I1.fpOk (H' := H1) (b := s1.heap.objs.size) (Nat.le_refl _) (I1.hok.fresh (Nat.le_refl _))
  obtain ⟨ot, hot, hrt⟩ := id p'
  have hal := Heap.lt_size hot
  have hne : a ≠ s1.heap.objs.size := Nat.ne_of_lt hal
  have hn : its.toArray.size ≤ sizeLine := by rw [List.size_toArray, ← rv.length]; exact hz
  have hsz : (s1.heap.push (rtObj a ((its.toArray.size : Int) - 1))).objs.size = s1.heap.objs.size + 1 := Heap.size_push ..
  have hit : IsRt (s1.heap.push (rtObj a ((its.toArray.size : Int) - 1))) s1.heap.objs.size a ((its.toArray.size : Int) - 1 - ((0 : Nat) : Int)) := ⟨_, Heap.get?_push_size _ rfl, rfl, by simp [rtObj]⟩
  refine call_list_it (s := { s1 with heap := s1.heap.push (rtObj a ((its.toArray.size : Int) - 1)), toks := s1.toks + 1 + 1 }) (T := "reversed") (fun A hh => walksRt hh s1.heap.objs.size a hne its.toArray hn) (I1.ok.hd hc) hn ⟨_, Heap.get?_push_size _ rfl, rfl⟩ (by decide) (by decide)
    (fun A s' Q E st q => ?_) ⟨Nat.zero_le _, hit, ⟨ot, k0 _ _ hot, hrt⟩⟩ (by simp) (fun b hb => ?_) fun h' tk acc c' hk hS hi => ?_
  · refine hintRt (items := its.toArray) (by have z := st.2.1; simpa using z) st.2.2 (by simp only [List.size_toArray]; omega) (fun A E s2 Q p2 k => len_tuple p2 (by simp only [List.size_toArray] <;> omega) (k _ _)) q
  · rcases List.mem_cons.mp hb with e | e
    · rw [e, hsz]; exact Nat.lt_succ_self _
    · rw [List.mem_singleton.mp e, hsz]; exact Nat.lt_succ_of_lt hal
  · have I3 : Inv X pins σ H1 { s1 with heap := h', toks := tk } := I2.turned (t' := tk) (fun b o hb e => hk b o (by simpa using hb) e) f0 f1 f3 f4 f5
    have hb : s1.heap.objs.size + 1 = (s1.heap.push (rtObj a ((its.toArray.size : Int) - 1))).objs.size := hsz.symm
    have J : Inv X pins σ (upd H1 (s1.heap.push (rtObj a ((its.toArray.size : Int) - 1))).objs.size (.lst xs.reverse)) { s1 with heap := h', toks := tk } := by
      refine I2.turnedNew (ch := [s1.heap.objs.size]) (fun b o hb e => hk b o hb e) (fun b hb => ?_) (Nat.le_refl _) (show ObjOk X.prog X.w _ _ _ (.lst xs.reverse) from ⟨by rw [List.length_reverse]; exact hz, acc.toList, c', vals_rev rv hi, ?_⟩)
      · rw [List.mem_singleton.mp hb]; exact ⟨f0, f1, f2, f3, f4, f5⟩
      · rw [Array.toArray_toList]; exact hS
    exact ⟨.ref _, _, J, rfl, q _ (I2.hok.fresh (Nat.le_refl _))⟩
section
variable {te ta tb : TE} {Γ : List Sl} {d x y : PyData} {ds es : List PyData} {K : PySem.W.Frag} {ts : TA}
theorem en_listRevT (h : EvD te Γ (.tuple ds)) (hz : ds.length ≤ 100000) : EvN (tListRevT K te) Γ ds.reverse := fun C B F H σ w g Q q =>
  h C B F H σ w g _ fun v F1 H1 g1 r1 => by
    obtain ⟨a, xs, rfl, f, ra⟩ := r1.tup_inv
    exact ⟨a, xs, rfl, SqT.of (g1.fh _ _ f), by rw [ra.length]; exact hz, fun p hp => q _ F1 _ (g1.trans (.newM g1.fh hp)) ⟨p, _, rfl, g1.fresh hp, g1.fh.none hp, upd_same, ra.reverse⟩⟩
/-- enumerate(..) -/
theorem zip_get {α : Type} (xs : List α) (i : Nat) (k : Nat) : (xs.zipIdx k)[i]? = (xs[i]?).map fun x => (x, i + k) := by
  rw [List.getElem?_zipIdx]
  cases xs[i]? with
  | none => rfl
  | some x => simp [Nat.add_comm]
theorem wk_enumL {a : Addr} {vs : List V} {F H : Hp} {ds : List PyData} (s : Sub F H) (h : H a = some (.lst vs)) (r : RpAll F vs ds) :
    (∀ i d, (ds.zipIdx.map fun p => PyData.tuple [.int p.2, p.1])[i]? = some d → (Ite K a).go i H ∧ ∀ x H', (Ite K a).yld i H x H' → ∃ F', Grow [] F H F' H' ∧ Rp F' x d) ∧ (Ite K a).stop (ds.zipIdx.map fun p => PyData.tuple [.int p.2, p.1]).length H :=
  ⟨fun i d e => by
    rw [List.getElem?_map, zip_get] at e
    cases q : ds[i]? with
    | none => rw [q] at e; cases e
    | some y =>
      rw [q] at e
      cases e
      obtain ⟨v, h1, h2⟩ := r.get q
      refine ⟨⟨vs, v, SqL.of h, h1⟩, fun x H' ⟨T, z, e1, e2, e3, e4⟩ => ?_⟩
      subst e1 e3
      have e5 := e4 vs (SqL.of h)
      rw [h1] at e5; cases e5
      exact ⟨_, .new s e2, .tup upd_same (.cons (by rw [Nat.add_zero]; exact .int _) (.cons (h2.mono (Sub.new (s.none e2))) .nil))⟩, ⟨vs, SqL.of h, by rw [r.length]; simp⟩⟩
theorem wk_enumT {a : Addr} {vs : List V} {F H : Hp} {ds : List PyData} (s : Sub F H) (h : H a = some (.tup vs)) (r : RpAll F vs ds) :
    (∀ i d, (ds.zipIdx.map fun p => PyData.tuple [.int p.2, p.1])[i]? = some d → (IteT K a).go i H ∧ ∀ x H', (IteT K a).yld i H x H' → ∃ F', Grow [] F H F' H' ∧ Rp F' x d) ∧ (IteT K a).stop (ds.zipIdx.map fun p => PyData.tuple [.int p.2, p.1]).length H :=
  ⟨fun i d e => by
    rw [List.getElem?_map, zip_get] at e
    cases q : ds[i]? with
    | none => rw [q] at e; cases e
    | some y =>
      rw [q] at e
      cases e
      obtain ⟨v, h1, h2⟩ := r.get q
      refine ⟨⟨vs, v, SqT.of h, h1⟩, fun x H' ⟨T, z, e1, e2, e3, e4⟩ => ?_⟩
      subst e1 e3
      have e5 := e4 vs (SqT.of h)
      rw [h1] at e5; cases e5
      exact ⟨_, .new s e2, .tup upd_same (.cons (by rw [Nat.add_zero]; exact .int _) (.cons (h2.mono (Sub.new (s.none e2))) .nil))⟩, ⟨vs, SqT.of h, by rw [r.length]; simp⟩⟩
theorem ih_enum (h : RdS te Γ ds) : IterH (iEnumA K (tCons te tNil)) Γ (ds.zipIdx.map fun p => .tuple [.int p.2, p.1]) := fun C B F H σ w g R r => h C B F H σ w g _ fun v F1 H1 g1 ⟨p, vs, e, l, ra⟩ => by
  subst e
  refine ⟨p, rfl, ?_⟩
  rcases l with l | l
  · exact .inl ⟨⟨vs, SqL.of l⟩, r _ F1 H1 g1 fun F2 H2 g2 => wk_enumL g2.fh (g2.sub _ _ l) (ra.mono g2.ff)⟩
  · exact .inr ⟨⟨vs, SqT.of l⟩, r _ F1 H1 g1 fun F2 H2 g2 => wk_enumT g2.fh (g2.sub _ _ l) (ra.mono g2.ff)⟩
theorem if_enumL (h : EvD te Γ (.list ds)) : IterF (iEnumA K (tCons te tNil)) Γ (ds.zipIdx.map fun p => .tuple [.int p.2, p.1]) := fun C B F H σ w g R r => h C B F H σ w g _ fun v F1 H1 g1 r1 => by
  obtain ⟨p, vs, rfl, l, ra⟩ := Rp.lst_inv r1
  exact ⟨p, rfl, .inl ⟨⟨vs, SqL.of (g1.fh _ _ l)⟩, r _ F1 H1 g1 fun F2 H2 s1 s2 => wk_enumL s2 (s2 _ _ (s1 _ _ l)) (ra.mono s1)⟩⟩
theorem if_enumT (h : EvD te Γ (.tuple ds)) : IterF (iEnumA K (tCons te tNil)) Γ (ds.zipIdx.map fun p => .tuple [.int p.2, p.1]) := fun C B F H σ w g R r => h C B F H σ w g _ fun v F1 H1 g1 r1 => by
  obtain ⟨p, vs, rfl, l, ra⟩ := Rp.tup_inv r1
  exact ⟨p, rfl, .inr ⟨⟨vs, SqT.of (g1.fh _ _ l)⟩, r _ F1 H1 g1 fun F2 H2 s1 s2 => wk_enumT s2 (s2 _ _ (s1 _ _ l)) (ra.mono s1)⟩⟩
end
end Eh

namespace Eh
open PySem PySem.Spec PyProof.Rows L2

/-! ### try, except: what the text says -/
section
variable {X : Cx} {a : Addr} {oe : Obj} {cls : Value} {d : Option Addr} {pn : List (Addr × Obj)}
/-- isinstance(e, c) of the caught error, of a class without a dict of its own -/
def rIsX (K : PySem.W.Frag) (a : Addr) (cls : Value) (d : Option Addr) : List V → Hp → VK → Prop := fun xs H Q => ∃ D, cls = .ref D ∧ d = none ∧ ExcC K D ∧ rIsE K D a xs H Q
theorem call_isX (hz : L2N.Zn cls d oe) (hf : ∃ vs, oe.data = .fields vs) : CallR (X.suite a ((a, oe) :: pn)) (.builtin "isinstance") (rIsX X.K a cls d) := by
  intro pins s σ H xs us Q I r h
  obtain ⟨D, rfl, rfl, C, h⟩ := h
  exact call_isE C hz.zc hf pins s σ H xs us Q I r h
theorem hot_of (hz : L2N.Zn cls d oe) (hf : ∃ vs, oe.data = .fields vs) : L2H.HotC (X.suite a ((a, oe) :: pn)) := by
  obtain ⟨vs, e⟩ := hf
  exact ⟨(a, oe), ⟨rfl, vs, e, hz.2.2 vs e⟩, List.mem_cons_self⟩
theorem dCallS {k j : Nat} {x : Str} {sp : Sp} {W : WX} {e : Expr} {es : List Expr} {t : TA} {p pos : Pos} (c : Cl X.prog X.w X.K X.mg X.base k x sp) (hr : Room j X.A) (hk : k ≤ j) (hg : Gl X x) (tk : L2N.Takes X W) (ha : PA X (e :: es) t)
    (hdb : (x == ("__debug__" : Str)) = false := by decide) (he : starEach (e :: es) X.env = (false, eval e X.env) :: starEach es X.env := by rfl) (hpl : (backTo pos (starEach es X.env)).any (·.1) = false := by rfl) :
    PE X (.Call (.Name x p) (e :: es) [] pos) (tCallS sp (WE W) t) := by
  obtain ⟨f, fd, ps, F, m, kp, b⟩ := c.ex
  exact pe_callS F (hr.mono hk) hg m kp b (fun σ => L2N.passAt tk σ) ha hdb he hpl
end
def tTryAs (K : PySem.W.Frag) (c : Value) (i : Nat) (ts : Addr → Value → Option Addr → TS) (Wout : WX) (tb : WX → TS) : TS := fun D σ H => tb (wAs K c i ts Wout D) D σ H
/-! ### .. and what it does -/
def XAt (C : Pc) (B F0 : Hp) (Γ : List Sl) (W : WX) (c : Addr) (f : Option (List (Str × V))) : Prop := ∀ F H σ cv dd, Wd C F H → Grow C.S F0 B F H → Gm C B F H σ Γ → XcOk c f cv dd H → W cv dd σ H
section
variable {C : Pc} {B F0 : Hp} {Γ : List Sl} {te ta tb : TE} {tt : TT} {tA : TA} {D : Ends} {i : Nat} {d : PyData} {ds es : List PyData} {K : PySem.W.Frag} {W Wout : WX} {R : List PyData → Out → Prop} {o : Out} {J c : Addr} {ts : Addr → Value → Option Addr → TS}
theorem at_dropS (h : EvA tA Γ ds) (hR : R ds o) (hok : ∀ d, o = .ok d → At C B F0 Γ D.nx) (hx : ∀ c f, o = .err c f → XAt C B F0 Γ W c f) : At C B F0 Γ (tDrop (tCallS (spR R) (WE W) tA) D) := fun F H σ w g e =>
  h C B F H σ w e _ fun vs F1 H1 g1 r1 => ⟨F1, ds, o, g1.fh, r1, hR, fun d e2 v F2 H2 g2 r2 => hok d e2 F2 H2 σ ((w.grow g1).grow g2) (g.trans (g1.trans g2).weak) (e.grow (g1.trans g2).weak),
    fun c f e2 cv dd F2 H2 g2 x => hx c f e2 F2 H2 σ cv dd ((w.grow g1).grow g2) (g.trans (g1.trans g2).weak) (e.grow (g1.trans g2).weak) x⟩
theorem xat_as (hm : PySem.W.exmOne K (.ref c) (.ref J) = some true)
    (h : ∀ a, At C B F0 (Γ.set i (.ref a)) (ts a (.ref c) none { nx := fun σ' H' => D.nx (σ'.set i none) H', rt := D.rt, bk := fun σ' H' => D.bk (σ'.set i none) H', ct := fun σ' H' => D.ct (σ'.set i none) H' })) :
    XAt C B F0 Γ (wAs K (.ref J) i ts Wout D) c none := fun F H σ cv dd w g e ⟨x1, x2⟩ => by
  subst x1
  have x3 : dd = none := x2
  subst x3
  exact ⟨true, hm, fun _ a ha => h a F H _ w g (e.set (s := .ref a) rfl fun _ z => nomatch z), fun z => nomatch z⟩
/-- behind the suite -/
theorem at_unset {P : L2.St → Hp → Prop} (h : At C B F0 (Γ.set i .no) P) : At C B F0 Γ (fun σ H => P (σ.set i none) H) := fun F H σ w g e => h F H _ w g (e.forget none)
theorem ev_isX {a D : Addr} {cv : Value} {x : V} {b : Bool} (hi : Γ[i]? = some (.ref a)) (hC : ExcC K D) (hk : PySem.W.kitOne K (.ref D) cv = some b) (hx : ∀ u, RelV x u → u = cv) :
    EvD (tCB (rIsX K a (.ref D) none) (tCons (tVar i) (tCons (tC x) tNil))) Γ (.bool b) := fun C B F H σ w g Q q =>
  ⟨_, g.ok i _ hi, D, rfl, rfl, hC, x, cv, b, rfl, hx, hk, q _ F H (.refl w.sub) (.bl b)⟩
theorem ev_isXr {a D E : Addr} {b : Bool} (hi : Γ[i]? = some (.ref a)) (hC : ExcC K D) (hk : PySem.W.kitOne K (.ref D) (.ref E) = some b) : EvD (tCB (rIsX K a (.ref D) none) (tCons (tVar i) (tCons (tC (.ref E)) tNil))) Γ (.bool b) :=
  ev_isX hi hC hk fun u r => r
theorem ev_isXt {a D : Addr} {T : String} {b : Bool} (hi : Γ[i]? = some (.ref a)) (hC : ExcC K D) (hk : PySem.W.kitOne K (.ref D) (.type T) = some b) : EvD (tCB (rIsX K a (.ref D) none) (tCons (tVar i) (tCons (tC (.ty T)) tNil))) Γ (.bool b) :=
  ev_isX hi hC hk fun u r => r
theorem ih_list (h : RdL te Γ ds) : IterH (iList K te) Γ ds := fun C B F H σ w g R r => h C B F H σ w g _ fun v F1 H1 g1 ⟨p, vs, e, l, ra⟩ => by
  subst e
  exact ⟨p, rfl, ⟨vs, SqL.of l⟩, r _ F1 H1 g1 fun F2 H2 g2 => wk_list g2.fh (g2.sub _ _ l) (ra.mono g2.ff)⟩
end
/-! ### facts of the text's errors, as Bools -/
def excCB (K : PySem.W.Frag) (D : Addr) : Bool := decide (PySem.W.findIn K (.ref D) "__getattribute__" = some (some (.builtin "BaseException.__getattribute__"))) && (decide (PySem.W.findIn K (.ref D) "__getattr__" = some none) && (decide (PySem.W.subIn K (.ref D) (.type "BaseException") = some true) &&
  (PySem.W.hasDictIn K D && (decide (PySem.W.findIn K (.ref D) "__class__" = some (some (.builtin "object.__class__"))) && (decide (PySem.W.specialIn K (.builtin "object.__class__") "__get__" = some (some (.builtin "getset_descriptor.__get__"))) &&
  (decide (PySem.W.takesIn K (.builtin "object.__class__") = some true) && decide (PySem.W.mroIn K D (.type "object") = some true)))))))
theorem excCB_ok {K : PySem.W.Frag} {D : Addr} (h : excCB K D = true) : ExcC K D := by
  unfold excCB at h
  simp only [Bool.and_eq_true, decide_eq_true_eq] at h
  obtain ⟨h1, h2, h3, h4, h5, h6, h7, h8⟩ := h
  exact ⟨h1, h2, h3, h4, h5, h6, h7, h8⟩
def kitNB (K : PySem.W.Frag) (D : Addr) (v : Value) (b : Bool) : Bool := decide (PySem.W.kitOne K (.ref D) v = some b)
def exmNB (K : PySem.W.Frag) (D J : Addr) (b : Bool) : Bool := decide (PySem.W.exmOne K (.ref D) (.ref J) = some b)
def noAtB (K : PySem.W.Frag) (D : Addr) (n : Str) : Bool := decide (PySem.W.findIn K (.ref D) n = some none)
/-- a Hook with more Bools -/
def hookE (n : Nat) (fa : List He.Fa) (fn : List He.DefD) (ex : List (PySem.W.Frag → Bool)) : PySem.W.Hook where
  α := He.AlD × Bool
  obs := fun s => (He.obsDG n fa fn s.heap.get?, ex.all fun f => f (He.frG s.heap.get? (He.asD s.heap.get? n)))
  val := fun _ => (He.valD fn, true)
  says := fun _ h => ∃ K : PySem.W.Frag, K.In h ∧ He.SaysD fa fn K ∧ ∀ f ∈ ex, f K = true
  of := fun _ _ e => ⟨_, He.frG_in, congrArg (fun z : He.AlD × Bool => z.1) e, List.all_eq_true.mp (congrArg (fun z : He.AlD × Bool => z.2) e)⟩
  keeps := fun _ _ _ ⟨K, hK, c⟩ k => ⟨K, PySem.W.Frag.In.keeps hK k, c⟩
def obE (n : Nat) (fa : List He.Fa) (fn : List He.DefD) (ex : List (PySem.W.Frag → Bool)) (g : Addr → Option Obj) : He.AlD × Bool := (He.obsDG n fa fn g, ex.all fun f => f (He.frG g (He.asD g n)))
theorem obE_eq {n : Nat} {fa : List He.Fa} {fn : List He.DefD} {ex : List (PySem.W.Frag → Bool)} {g : Addr → Option Obj} {s : Shared} (h : ∀ a, g a = s.heap.get? a) : obE n fa fn ex g = (hookE n fa fn ex).obs s := by
  have e : g = s.heap.get? := funext h
  rw [e] <;> rfl
end Eh

namespace Eh
open PySem PySem.Spec PyProof.Rows L2

/-! ### what stands exactly -/
def Ex (te : TE) (σ : L2.St) (H : Hp) (v : V) (H' : Hp) : Prop := ∀ Q : VK, Q v H' → te σ H Q
def ExT (tt : TT) (σ : L2.St) (H : Hp) (b : Bool) (H' : Hp) : Prop := ∀ Q : Bool → Hp → Prop, Q b H' → tt σ H Q
section
variable {te ta tb : TE} {tt tu : TT} {σ : L2.St} {H H1 H2 : Hp} {v u : V} {i j : Int} {K : PySem.W.Frag} {D : Ends} {t : TS}
theorem ex_var {n : Nat} (h : σ[n]? = some (some v)) : Ex (tVar n) σ H v H := fun Q q => ⟨v, h, q⟩
theorem ex_c : Ex (tC v) σ H v H := fun Q q => q
theorem ex_add (a : Ex ta σ H (.int i) H1) (b : Ex tb σ H1 (.int j) H2) : Ex (tOp (rAddA K) ta tb) σ H (.int (i + j)) H2 := fun Q q => a _ (b _ (.inl ⟨i, j, rfl, rfl, q⟩))
theorem ex_mul (a : Ex ta σ H (.int i) H1) (b : Ex tb σ H1 (.int j) H2) (c : CMul i j) : Ex (tOp (rMulA K) ta tb) σ H (.int (i * j)) H2 := fun Q q => a _ (b _ (.inl ⟨i, j, rfl, rfl, c, q⟩))
theorem ex_mod (a : Ex ta σ H (.int i) H1) (b : Ex tb σ H1 (.int j) H2) (c : 0 < j) : Ex (tOp rModI ta tb) σ H (.int (i % j)) H2 := fun Q q => a _ (b _ ⟨i, j, rfl, rfl, c, q⟩)
theorem ex_div (a : Ex ta σ H (.int i) H1) (b : Ex tb σ H1 (.int j) H2) (c : CDiv i j) : Ex (tOp rDivI ta tb) σ H (.int (i / j)) H2 := fun Q q => a _ (b _ ⟨i, j, rfl, rfl, c, q⟩)
theorem ex_int (a : Ex ta σ H (.int i) H1) : Ex (tCB rIntA (tCons ta tNil)) σ H (.int i) H1 := fun Q q => a _ (.inl ⟨i, rfl, q⟩)
theorem ex_ix {p : Addr} {xs : List V} (a : Ex ta σ H (.ref p) H1) (b : Ex tb σ H1 (.int i) H2) (h : H2 p = some (.lst xs)) (e : atI xs i = some v) : Ex (tOp (rIx K) ta tb) σ H v H2 := fun Q q => a _ (b _ (.inl ⟨p, xs, i, v, rfl, rfl, SqL.of h, e, q⟩))
theorem ex_len {p : Addr} {xs : List V} (a : Ex ta σ H (.ref p) H1) (h : H1 p = some (.lst xs)) : Ex (tCB (rLenA K) (tCons ta tNil)) σ H (.int xs.length) H1 := fun Q q => a _ (.inl ⟨p, xs, rfl, .inl (SqL.of h), q⟩)
theorem ex_gt (a : Ex ta σ H (.int i) H1) (b : Ex tb σ H1 (.int j) H2) : ExT (tTest (tOp rGtI ta tb)) σ H (decide (j < i)) H2 := fun Q q => a _ (b _ ⟨i, j, rfl, rfl, _, rfl, q⟩)
theorem ex_eq (a : Ex ta σ H (.int i) H1) (b : Ex tb σ H1 (.int j) H2) : ExT (tTest (tOp (rEqA K) ta tb)) σ H (decide (i = j)) H2 := fun Q q => a _ (b _ (.inl ⟨rfl, _, rfl, by
  rw [show decide (V.int i = V.int j) = decide (i = j) by rw [dec_int, Bool.beq_eq_decide_eq]]
  exact q⟩))
theorem ex_and {a b : Bool} (h : ExT tt σ H a H1) (k : a = true → ExT tu σ H1 b H2) (n : a = false → H1 = H2) : ExT (tAnd tt tu) σ H (a && b) H2 := fun Q q => h _ (by
  cases a with
  | true => exact k rfl Q q
  | false => rw [← n rfl] at q; exact q)
theorem ex_pop {p : Addr} {xs : List V} {k : Nat} (a : Ex ta σ H (.ref p) H1) (b : Ex tb σ H1 (.int (k : Int)) H2) (h1 : H1 p = some (.lst xs)) (h : H2 p = some (.lst xs)) (hk : xs[k]? = some v) (hz : xs.length < 100000) :
    Ex (tBM K "list" rPopAt ta (tCons tb tNil)) σ H v (upd H2 p (.lst (xs.eraseIdx k))) := fun Q q => a _ (by
  have hl := (List.getElem?_eq_some_iff.mp hk).1
  exact ⟨.inl ⟨rfl, xs, SqL.of h1⟩, b _ ⟨p, xs, (k : Nat), k, v, rfl, rfl, h, by omega, by omega, seqIndex_of (by omega) (by omega), hk, q⟩⟩)
theorem sx_asg {n : Nat} (h : Ex te σ H v H1) (k : D.nx (σ.set n (some v)) H1) : tAsg te (gName n) D σ H := h _ k
theorem sx_set {n : Int} {m : Nat} {p : Addr} {xs : List V} (h : Ex te σ H v H1) (a : Ex ta σ H1 (.ref p) H1) (b : Ex tb σ H1 (.int n) H1) (hp : H1 p = some (.lst xs)) (hk : ixN xs.length n = some m) (k : D.nx σ (upd H1 p (.lst (xs.set m v)))) :
    tAsg te (gSub ta tb rSetL) D σ H := h _ (a _ (b _ ⟨p, xs, n, m, rfl, rfl, hp, hk, k⟩))
theorem ixN_nat {n k : Nat} (h : k < n) : ixN n (k : Int) = some k := by
  unfold ixN
  rw [if_pos (by omega), if_pos (by omega)]; simp
theorem ex_ixN {p : Addr} {xs : List V} (k : Nat) (a : Ex ta σ H (.ref p) H1) (b : Ex tb σ H1 (.int (k : Int)) H2) (h : H2 p = some (.lst xs)) (e : xs[k]? = some v) : Ex (tOp (rIx K) ta tb) σ H v H2 := ex_ix a b h (atI_nat e)
theorem sx_setN (m : Nat) {p : Addr} {xs : List V} (h : Ex te σ H v H1) (a : Ex ta σ H1 (.ref p) H1) (b : Ex tb σ H1 (.int (m : Int)) H1) (hp : H1 p = some (.lst xs)) (hk : m < xs.length) (k : D.nx σ (upd H1 p (.lst (xs.set m v)))) :
    tAsg te (gSub ta tb rSetL) D σ H := sx_set h a b hp (ixN_nat hk) k
theorem sx_ret (h : Ex te σ H v H1) (k : D.rt v H1) : tRet te D σ H := h _ k
theorem sx_if {b : Bool} {u : TS} (h : ExT tt σ H b H1) (k1 : b = true → t D σ H1) (k2 : b = false → u D σ H1) : tIfS tt t u D σ H := h _ (by
  cases b with
  | true => exact k1 rfl
  | false => exact k2 rfl)
end
/-! ### a frozen list that is read -/
theorem FzL.sq {K : PySem.W.Frag} {S : List Addr} {H : Hp} {a : Addr} {xs : List V} (h : FzL K S H a xs) : SqL K H a xs := by
  rcases h with ⟨o, h, _⟩ | h
  · exact .inl (.inr ⟨o, h⟩)
  · exact .inr h
section
variable {te ta tb : TE} {Γ : List Sl} {K : PySem.W.Frag} {a : Addr}
theorem ev_lenZ {i : Nat} {xs : List V} (h : Γ[i]? = some (.fz K a xs)) : EvD (tCB (rLenA K) (tCons (tVar i) tNil)) Γ (.int xs.length) := fun C B F H σ w g Q q => by
  obtain ⟨e, k⟩ := g.ok i _ h
  exact ⟨_, e, .inl ⟨a, xs, rfl, .inl k.sq, q _ F H (.refl w.sub) (.int _)⟩⟩
theorem ev_ixZ {i : Nat} {ns : List Int} {n : Nat} {m : Int} (h : Γ[i]? = some (.fz K a (ns.map V.int))) (hb : EvD tb Γ (.int (n : Int))) (e : ns[n]? = some m) : EvD (tOp (rIx K) (tVar i) tb) Γ (.int m) := fun C B F H σ w g Q q => by
  obtain ⟨e1, k⟩ := g.ok i _ h
  refine ⟨_, e1, hb C B F H σ w g _ fun v F1 H1 g1 r1 => ?_⟩
  obtain ⟨_, k2⟩ := (g.grow (F' := F1) (H' := H1) g1.weak).ok i _ h
  rw [r1.int_inv]
  exact .inl ⟨a, ns.map V.int, (n : Nat), .int m, rfl, rfl, k2.sq, atI_nat (by rw [List.getElem?_map, e]; rfl), q _ F1 H1 g1 (.int _)⟩
end
end Eh

namespace Eh
open PySem PySem.Spec PyProof.Rows L2

/-! ### what a text does, by data alone: continuations over data -/
abbrev XP := Str → Option (List (Str × V)) → Prop
abbrev MW (α : Type) := (α → Prop) → XP → Prop
abbrev WD := MW PyData
abbrev WL := MW (List PyData)
abbrev WT := MW Bool
def noX : XP := fun _ _ => False
abbrev DP := PyData → Prop
abbrev OpW := PyData → PyData → DP → Prop
abbrev intW (d : PyData) (k : Int → Prop) : Prop := match d with | .int i => k i | _ => False
abbrev boolW (d : PyData) (k : Bool → Prop) : Prop := match d with | .bool b => k b | _ => False
abbrev seqW (d : PyData) (k : List PyData → Prop) : Prop := match d with | .list xs => k xs | .tuple xs => k xs | _ => False
abbrev lstW (d : PyData) (k : List PyData → Prop) : Prop := match d with | .list xs => k xs | _ => False
abbrev addW : OpW := fun x y k => match x, y with
  | .int i, .int j => k (.int (i + j)) | .tuple xs, .tuple ys => xs.length + ys.length ≤ 100000 ∧ k (.tuple (xs ++ ys))
  | .list xs, .list ys => xs.length + ys.length ≤ 100000 ∧ k (.list (xs ++ ys)) | _, _ => False
abbrev opI (c : Int → Int → Prop) (f : Int → Int → PyData) : OpW := fun x y k => match x, y with | .int i, .int j => c i j ∧ k (f i j) | _, _ => False
abbrev opJ (f : Int → Int → PyData) : OpW := fun x y k => match x, y with | .int i, .int j => k (f i j) | _, _ => False
abbrev subW : OpW := opJ fun i j => .int (i - j)
abbrev mulW : OpW := fun x y k => match x, y with
  | .int i, .int j => CMul i j ∧ k (.int (i * j)) | .tuple xs, .int j => xs ≠ [] ∧ 0 ≤ j ∧ j ≤ 1000 ∧ xs.length ≤ 1000 ∧ k (.tuple (List.replicate j.toNat xs).flatten) | _, _ => False
abbrev modW : OpW := opI (fun _ j => 0 < j) fun i j => .int (i % j)
abbrev divW : OpW := opI CDiv fun i j => .int (i / j)
abbrev powW : OpW := opI CPow fun i j => .int (i ^ j.toNat)
abbrev shlW : OpW := opI CPow fun i j => .int (i * 2 ^ j.toNat)
abbrev shrW : OpW := opI (fun _ j => 0 ≤ j) fun i j => .int (i / 2 ^ j.toNat)
abbrev bandW : OpW := opJ fun i j => .int (Builtin.bitAnd i j)
abbrev borW : OpW := opJ fun i j => .int (Builtin.bitOr i j)
abbrev bxorW : OpW := opJ fun i j => .int (Builtin.bitXor i j)
abbrev ltW : OpW := opJ fun i j => .bool (decide (i < j))
abbrev leW : OpW := opJ fun i j => .bool (decide (i ≤ j))
abbrev gtW : OpW := opJ fun i j => .bool (decide (j < i))
abbrev geW : OpW := opJ fun i j => .bool (decide (j ≤ i))
def eqW : OpW := fun x y k => SeqAt.shaped x = true ∧ SeqAt.shaped y = true ∧ k (.bool (PyData.eqv x y))
def neW : OpW := fun x y k => SeqAt.shaped x = true ∧ SeqAt.shaped y = true ∧ k (.bool (!PyData.eqv x y))
abbrev isNW : PyData → DP → Prop := fun x k => k (.bool (isNon x))
abbrev notNW : PyData → DP → Prop := fun x k => k (.bool (!isNon x))
abbrev negW : PyData → DP → Prop := fun x k => match x with | .int i => k (.int (-i)) | _ => False
abbrev notW : PyData → DP → Prop := fun x k => match x with | .bool b => k (.bool (!b)) | _ => False
/-- in: flat items in a list or tuple; anything in a list -/
def inW (x : PyData) (ys : List PyData) (k : DP) : Prop := flatD x = true ∧ ys.all flatD = true ∧ k (.bool (ys.any fun z => PyData.eqv z x))
def niW (x : PyData) (ys : List PyData) (k : DP) : Prop := flatD x = true ∧ ys.all flatD = true ∧ k (.bool (!ys.any fun z => PyData.eqv z x))
def inLW (x y : PyData) (k : DP) : Prop := match y with | .list ds => SeqAt.shaped x = true ∧ SeqAt.shaped (.list ds) = true ∧ k (.bool (ds.any fun z => PyData.eqv z x)) | _ => False
def niLW (x y : PyData) (k : DP) : Prop := match y with | .list ds => SeqAt.shaped x = true ∧ SeqAt.shaped (.list ds) = true ∧ k (.bool (!ds.any fun z => PyData.eqv z x)) | _ => False
def ixW (xs : List PyData) (i : PyData) (k : DP) : Prop := match i with | .int n => ∃ d, atI xs n = some d ∧ k d | _ => False
abbrev lenW (xs : List PyData) (k : DP) : Prop := k (.int xs.length)
abbrev cintW (x : PyData) (k : DP) : Prop := match x with | .int i => k (.int i) | .bool b => k (.int (if b then 1 else 0)) | _ => False
abbrev absW (x : PyData) (k : DP) : Prop := match x with | .int i => k (.int (if i < 0 then -i else i)) | _ => False
abbrev strW (x : PyData) (k : DP) : Prop := match x with | .int i => i.natAbs.log2 < 1920 ∧ k (.str (toString i)) | _ => False
abbrev min2W : OpW := opJ fun i j => .int (if j < i then j else i)
abbrev max2W : OpW := opJ fun i j => .int (if j > i then j else i)
def allW (xs : List PyData) (k : DP) : Prop := ∃ bs : List Bool, xs = bs.map .bool ∧ k (.bool (bs.all id))
def anyW (xs : List PyData) (k : DP) : Prop := ∃ bs : List Bool, xs = bs.map .bool ∧ k (.bool (bs.any id))
def sumW (xs : List PyData) (k : DP) : Prop := ∃ ns : List Int, xs = ns.map .int ∧ k (.int ns.sum)
def minW (xs : List PyData) (k : DP) : Prop := ∃ (ns : List Int) (m : Int), xs = ns.map .int ∧ m ∈ ns ∧ (∀ j ∈ ns, m ≤ j) ∧ k (.int m)
def maxW (xs : List PyData) (k : DP) : Prop := ∃ (ns : List Int) (m : Int), xs = ns.map .int ∧ m ∈ ns ∧ (∀ j ∈ ns, j ≤ m) ∧ k (.int m)
abbrev isIntW (x : PyData) (k : DP) : Prop := k (.bool (isIntD x || isBlD x))
abbrev isBlW (x : PyData) (k : DP) : Prop := k (.bool (isBlD x))
abbrev isStrW (x : PyData) (k : DP) : Prop := k (.bool (isStrD x))
abbrev isLstW (x : PyData) (k : DP) : Prop := k (.bool (isLstD x))
abbrev isTupW (x : PyData) (k : DP) : Prop := k (.bool (isTupD x))
abbrev isLTW (x : PyData) (k : DP) : Prop := k (.bool (isLstD x || isTupD x))
abbrev letW {α : Type} (a : α) (k : α → Prop) : Prop := k a
def dispT (xs : List PyData) (k : DP) : Prop := xs.length ≤ 100000 ∧ k (.tuple xs)
def dispL (xs : List PyData) (k : List PyData → Prop) : Prop := xs.length ≤ 100000 ∧ k xs
abbrev fzW (xs : List PyData) (k : DP) : Prop := k (.list xs)
def catW (xs ys : List PyData) (k : List PyData → Prop) : Prop := xs.length + ys.length ≤ 100000 ∧ k (xs ++ ys)
abbrev cutW (xs : List PyData) (lo hi : Option Int) (k : List PyData → Prop) : Prop := k (cutD xs lo hi)
abbrev augW (f : Int → Int → Int) (x y : PyData) (k : DP) : Prop := match x, y with | .int a, .int b => k (.int (f a b)) | _, _ => False
abbrev tupW (xs : List PyData) (k : DP) : Prop := k (.tuple xs)
def iteW (b : Bool) (p q : Prop) : Prop := match b with | true => p | false => q
abbrev joinW {κ : Type} (f : κ → Prop) (k : κ) : Prop := f k
def andW (t u : (Bool → Prop) → Prop) (k : Bool → Prop) : Prop := t fun b => iteW b (u k) (k false)
def orW (t u : (Bool → Prop) → Prop) (k : Bool → Prop) : Prop := t fun b => iteW b (k true) (u k)
abbrev andVW (t u : DP → Prop) (k : DP) : Prop := t fun x => boolW x fun b => iteW b (u k) (k (.bool false))
abbrev orVW (t u : DP → Prop) (k : DP) : Prop := t fun x => boolW x fun b => iteW b (k (.bool true)) (u k)
abbrev chainW (o o' : OpW) (x y : PyData) (c : DP → Prop) (k : DP) : Prop := o x y fun r => boolW r fun b => iteW b (c fun z => o' y z k) (k (.bool false))
def lcGo (body : PyData → DP → Prop → Prop) : List PyData → (List PyData → Prop) → Prop
  | [], k => k []
  | x :: xs, k => body x (fun d => lcGo body xs fun l => k (d :: l)) (lcGo body xs k)
def lcW (items : List PyData) (body : PyData → DP → Prop → Prop) (k : List PyData → Prop) : Prop := items.length ≤ 100000 ∧ lcGo body items k
def lcMW (items : List PyData) (body : PyData → DP → Prop) (k : List PyData → Prop) : Prop := lcW items (fun x Y _ => body x Y) k
def rgI (n : Int) : List PyData := (List.range n.toNat).map fun i : Nat => .int i
def rgIJ (i j : Int) : List PyData := (List.range (j - i).toNat).map fun k : Nat => .int (i + k)
def rngW (x : PyData) (k : List PyData → Prop) : Prop := match x with | .int n => -100000 ≤ n ∧ n ≤ 100000 ∧ k (rgI n) | _ => False
def rgLW (x : PyData) (k : List PyData → Prop) : Prop := match x with | .int n => 0 ≤ n ∧ n ≤ 100000 ∧ k (rgI n) | _ => False
def rng2W (x y : PyData) (k : List PyData → Prop) : Prop := match x, y with | .int i, .int j => -100000 ≤ i ∧ i ≤ 100000 ∧ j ≤ 100000 ∧ -100000 ≤ j ∧ k (rgIJ i j) | _, _ => False
def enumD (xs : List PyData) : List PyData := xs.zipIdx.map fun p => .tuple [.int p.2, p.1]
abbrev un2W (x : PyData) (k : PyData → PyData → Prop) : Prop := match x with | .tuple [a, b] => k a b | _ => False
abbrev un3W (x : PyData) (k : PyData → PyData → PyData → Prop) : Prop := match x with | .tuple [a, b, c] => k a b c | _ => False
def forW {σ : Type} (body : PyData → σ → (σ → Prop) → (σ → Prop) → Prop) (done : σ → Prop) : List PyData → σ → Prop
  | [], s => done s
  | x :: xs, s => body x s (fun s' => forW body done xs s') done
def whileW {σ : Type} (s0 : σ) (cond : σ → (Bool → Prop) → Prop) (body : σ → (σ → Prop) → (σ → Prop) → Prop) (done : σ → Prop) : Prop :=
  ∃ (I : σ → Prop) (μ : σ → Nat), I s0 ∧ ∀ s, I s → cond s fun b => iteW b (body s (fun s' => I s' ∧ μ s' < μ s) done) (done s)
def appW (xs : List PyData) (d : PyData) (k : List PyData → Prop) : Prop := xs.length < 100000 ∧ k (xs ++ [d])
def extW (xs ys : List PyData) (k : List PyData → Prop) : Prop := xs.length + ys.length ≤ 100000 ∧ k (xs ++ ys)
def setW (xs : List PyData) (i d : PyData) (k : List PyData → Prop) : Prop := match i with | .int n => ∃ j, ixN xs.length n = some j ∧ k (xs.set j d) | _ => False
def popW (xs : List PyData) (i : PyData) (k : PyData → List PyData → Prop) : Prop := match i with
  | .int n => xs.length ≤ 100000 ∧ 0 ≤ n ∧ n < xs.length ∧ ∀ d, xs[n.toNat]? = some d → k d (xs.eraseIdx n.toNat) | _ => False
def slW (xs : List PyData) (lo hi : Option Int) : List PyData := cutD xs lo hi
def drawW (x : PyData) (k : DP) : Prop := match x with | .int n => 0 < n ∧ n < 1073741824 ∧ ∀ r : Int, 0 ≤ r → r < n → k (.int r) | _ => False

/-! ### what an expression is to do -/
variable {A : Str → Addr} {C : Pc} {E : L2.St → XK} {Γ Γ' : List Sl} {K : PySem.W.Frag} {w : World}
def XOk (A : Str → Addr) (C : Pc) (F H : Hp) (E : XK) (X : XP) : Prop := ∀ n f cv dd F' H', Grow C.S F H F' H' → Wd C F' H' → X n f → XcOk (A n) f cv dd H' → E cv dd H'
theorem XOk.go {F H F1 H1 : Hp} {X : XP} {E : XK} (x : XOk A C F H E X) (g : Grow C.S F H F1 H1) : XOk A C F1 H1 E X := fun n f cv dd F' H' g' => x n f cv dd F' H' (g.trans g')
def Jw {α : Type} (A : Str → Addr) (C : Pc) (E : L2.St → XK) (te : TE) (Γ : List Sl) (R : Hp → Hp → V → α → Hp → Hp → Prop) (m : MW α) : Prop :=
  ∀ P X, m P X → ∀ (B F H : Hp) (σ : L2.St), Wd C F H → Gm C B F H σ Γ → ∀ Q : VK, (∀ v F' H' a, Grow C.S F H F' H' → Wd C F' H' → P a → R F H v a F' H' → Q v H') → XOk A C F H (E σ) X → te σ H Q
def RD : Hp → Hp → V → PyData → Hp → Hp → Prop := fun _ _ v d F' _ => Rp F' v d
def RNn (C : Pc) : Hp → Hp → V → List PyData → Hp → Hp → Prop := fun _ H v ds F' H' => ∃ p vs, v = .ref p ∧ H p = none ∧ F' p = none ∧ p ∉ C.S ∧ H' p = some (.lst vs) ∧ RpAll F' vs ds
def RSs (C : Pc) : Hp → Hp → V → List PyData → Hp → Hp → Prop := fun _ _ v ds F' H' => ∃ p vs, v = .ref p ∧ p ∉ C.S ∧ (H' p = some (.lst vs) ∨ H' p = some (.tup vs)) ∧ RpAll F' vs ds
def RLs (C : Pc) : Hp → Hp → V → List PyData → Hp → Hp → Prop := fun _ _ v ds F' H' => ∃ p vs, v = .ref p ∧ p ∉ C.S ∧ H' p = some (.lst vs) ∧ RpAll F' vs ds
abbrev Ew (A : Str → Addr) (C : Pc) (E : L2.St → XK) (te : TE) (Γ : List Sl) (m : WD) : Prop := Jw A C E te Γ RD m
abbrev Nw (A : Str → Addr) (C : Pc) (E : L2.St → XK) (te : TE) (Γ : List Sl) (m : WL) : Prop := Jw A C E te Γ (RNn C) m
abbrev Sw (A : Str → Addr) (C : Pc) (E : L2.St → XK) (te : TE) (Γ : List Sl) (m : WL) : Prop := Jw A C E te Γ (RSs C) m
abbrev Lw (A : Str → Addr) (C : Pc) (E : L2.St → XK) (te : TE) (Γ : List Sl) (m : WL) : Prop := Jw A C E te Γ (RLs C) m
def Tw (A : Str → Addr) (C : Pc) (E : L2.St → XK) (tt : TT) (Γ : List Sl) (m : WT) : Prop :=
  ∀ P X, m P X → ∀ (B F H : Hp) (σ : L2.St), Wd C F H → Gm C B F H σ Γ → ∀ Q : Bool → Hp → Prop, (∀ b F' H', Grow C.S F H F' H' → Wd C F' H' → P b → Q b H') → XOk A C F H (E σ) X → tt σ H Q
def Aw (A : Str → Addr) (C : Pc) (E : L2.St → XK) (ta : TA) (Γ : List Sl) (m : WL) : Prop :=
  ∀ P X, m P X → ∀ (B F H : Hp) (σ : L2.St), Wd C F H → Gm C B F H σ Γ → ∀ Q : List V → Hp → Prop, (∀ vs F' H' ds, Grow C.S F H F' H' → Wd C F' H' → P ds → RpAll F' vs ds → Q vs H') → XOk A C F H (E σ) X → ta σ H Q
def Ow (A : Str → Addr) (C : Pc) (E : L2.St → XK) (to : TO) (Γ : List Sl) (m : MW (Option Int)) : Prop :=
  ∀ P X, m P X → ∀ (B F H : Hp) (σ : L2.St), Wd C F H → Gm C B F H σ Γ → ∀ Q : Option Int → Hp → Prop, (∀ o F' H', Grow C.S F H F' H' → Wd C F' H' → P o → Q o H') → XOk A C F H (E σ) X → to σ H Q
/-- items, of a comprehension; of a for -/
def Iw (A : Str → Addr) (C : Pc) (E : L2.St → XK) (wi : TI) (Γ : List Sl) (m : WL) : Prop :=
  ∀ P X, m P X → ∀ (B F H : Hp) (σ : L2.St), Wd C F H → Gm C B F H σ Γ → ∀ R : It → Hp → Prop, (∀ J F' H' ds, Grow C.S F H F' H' → Wd C F' H' → P ds → WkS C.S J F' H' ds → R J H') → XOk A C F H (E σ) X → wi σ H R
def Fw (A : Str → Addr) (C : Pc) (E : L2.St → XK) (wi : TI) (Γ : List Sl) (m : WL) : Prop :=
  ∀ P X, m P X → ∀ (B F H : Hp) (σ : L2.St), Wd C F H → Gm C B F H σ Γ → ∀ R : It → Hp → Prop, (∀ J F' H' ds, Grow C.S F H F' H' → Wd C F' H' → P ds → WkF J F' ds → R J H') → XOk A C F H (E σ) X → wi σ H R
section
variable {te ta tb tc : TE} {tt tu : TT} {ts : TA} {m ma mb mc : WD} {l la lb : WL} {mt mu : WT} {d : PyData} {ds : List PyData} {i : Nat}
theorem WkF.s {C : Pc} {J : It} {F H : Hp} {ds : List PyData} (k : WkF J F ds) : WkS C.S J F H ds := fun F2 H2 g2 => k F2 H2 g2.ff g2.fh
theorem Fw.it {wi : TI} (h : Fw A C E wi Γ l) : Iw A C E wi Γ l := fun P X hm B F H σ wd g R r x => h P X hm B F H σ wd g R (fun J F' H' ds g1 w1 p k => r J F' H' ds g1 w1 p k.s) x
/-- what is known without draws -/
theorem ew_d (h : EvD te Γ d) : Ew A C E te Γ (fun P _ => P d) := fun P X hm B F H σ wd g Q q _ => h C B F H σ wd g Q fun v F' H' gr r => q v F' H' d gr.weak (wd.grow gr) hm r
theorem ew_var (h : Γ[i]? = some (.dat d)) : Ew A C E (tVar i) Γ (fun P _ => P d) := ew_d (ev_var h)
theorem ew_int {n : Int} : Ew A C E (tC (.int n)) Γ (fun P _ => P (.int n)) := ew_d ev_int
theorem ew_bl {b : Bool} : Ew A C E (tC (.bl b)) Γ (fun P _ => P (.bool b)) := ew_d ev_bl
theorem ew_non : Ew A C E (tC .non) Γ (fun P _ => P .none) := ew_d ev_non
theorem ew_str {s : Str} : Ew A C E (tC (.str s)) Γ (fun P _ => P (.str s)) := ew_d ev_str
theorem sw_own (h : Γ[i]? = some (.own ds)) : Sw A C E (tVar i) Γ (fun P _ => P ds) := fun P X hm B F H σ wd g Q q _ => by
  obtain ⟨p, vs, e, l, f, b, n, r⟩ := g.ok i _ h
  exact ⟨_, e, q _ F H ds (.refl wd.sub) wd hm ⟨p, vs, rfl, n, .inl l, r⟩⟩
theorem lw_own (h : Γ[i]? = some (.own ds)) : Lw A C E (tVar i) Γ (fun P _ => P ds) := fun P X hm B F H σ wd g Q q _ => by
  obtain ⟨p, vs, e, l, f, b, n, r⟩ := g.ok i _ h
  exact ⟨_, e, q _ F H ds (.refl wd.sub) wd hm ⟨p, vs, rfl, n, l, r⟩⟩
theorem Jw.imp {α β : Type} {R : Hp → Hp → V → α → Hp → Hp → Prop} {R' : Hp → Hp → V → β → Hp → Hp → Prop} {m : MW α} {m' : MW β} (h : Jw A C E te Γ R m)
    (i : ∀ P X, m' P X → ∃ P', m P' X ∧ ∀ F H v a F' H', Wd C F H → Grow C.S F H F' H' → Wd C F' H' → P' a → R F H v a F' H' → ∃ b F'', Grow C.S F H F'' H' ∧ Wd C F'' H' ∧ P b ∧ R' F H v b F'' H') : Jw A C E te Γ R' m' :=
  fun P X hm B F H σ wd g Q q x => by
    obtain ⟨P', hm', k⟩ := i P X hm
    refine h P' X hm' B F H σ wd g Q (fun v F' H' a g1 w1 p r => ?_) x
    obtain ⟨b, F'', g2, w2, p2, r2⟩ := k F H v a F' H' wd g1 w1 p r
    exact q v F'' H' b g2 w2 p2 r2
theorem Nw.fz (h : Nw A C E te Γ l) : Ew A C E te Γ (fun P X => l (fun ds => fzW ds P) X) := h.imp fun P X hm => ⟨_, hm, fun F H v ds F' H' wd gr w1 p ⟨a, vs, e, n, f, s, hl, r⟩ => by
  subst e
  exact ⟨_, upd F' a (.lst vs), gr.freeze n hl f, w1.freeze s hl f, p, .lst upd_same (r.mono (Sub.new f))⟩⟩
theorem Nw.s (h : Nw A C E te Γ l) : Sw A C E te Γ l := h.imp fun P X hm => ⟨_, hm, fun F H v ds F' H' wd gr w1 p ⟨a, vs, e, n, f, s, hl, r⟩ => ⟨_, F', gr, w1, p, a, vs, e, s, .inl hl, r⟩⟩
theorem Nw.ls (h : Nw A C E te Γ l) : Lw A C E te Γ l := h.imp fun P X hm => ⟨_, hm, fun F H v ds F' H' wd gr w1 p ⟨a, vs, e, n, f, s, hl, r⟩ => ⟨_, F', gr, w1, p, a, vs, e, s, hl, r⟩⟩
theorem notS {F H : Hp} (wd : Wd C F H) {a : Addr} {o : HO} (f : F a = some o) : a ∉ C.S := fun z => by
  have := wd.sF a z
  rw [f] at this; cases this
theorem Ew.s (h : Ew A C E te Γ m) : Sw A C E te Γ (fun P X => m (fun d => seqW d P) X) := h.imp fun P X hm => ⟨_, hm, fun F H v d F' H' wd gr w1 p r => by
  unfold seqW at p
  cases r with
  | lst f ra => exact ⟨_, F', gr, w1, p, _, _, rfl, notS w1 f, .inl (w1.sub _ _ f), ra⟩
  | tup f ra => exact ⟨_, F', gr, w1, p, _, _, rfl, notS w1 f, .inr (w1.sub _ _ f), ra⟩
  | _ => exact p.elim⟩
theorem Ew.ls (h : Ew A C E te Γ m) : Lw A C E te Γ (fun P X => m (fun d => lstW d P) X) := h.imp fun P X hm => ⟨_, hm, fun F H v d F' H' wd gr w1 p r => by
  unfold lstW at p
  cases r with
  | lst f ra => exact ⟨_, F', gr, w1, p, _, _, rfl, notS w1 f, w1.sub _ _ f, ra⟩
  | _ => exact p.elim⟩
theorem Lw.s (h : Lw A C E te Γ l) : Sw A C E te Γ l := h.imp fun P X hm => ⟨_, hm, fun F H v ds F' H' wd gr w1 p ⟨a, vs, e, s, hl, r⟩ => ⟨_, F', gr, w1, p, a, vs, e, s, .inl hl, r⟩⟩
theorem ew_let (h : Ew A C E te Γ (fun P _ => P d)) : Ew A C E te Γ (fun P _ => letW d P) := fun P X hm => h P X hm
theorem sw_let (h : Sw A C E te Γ (fun P _ => P ds)) : Sw A C E te Γ (fun P _ => letW ds P) := fun P X hm => h P X hm
theorem lw_let (h : Lw A C E te Γ (fun P _ => P ds)) : Lw A C E te Γ (fun P _ => letW ds P) := fun P X hm => h P X hm
/-! operators -/
def RVw (r : R2) (op : OpW) : Prop := ∀ x y k, op x y k → ∃ d, k d ∧ RV r x y d
theorem ew_op {r : R2} {op : OpW} (hr : RVw r op) (ha : Ew A C E ta Γ ma) (hb : Ew A C E tb Γ mb) : Ew A C E (tOp r ta tb) Γ (fun P X => ma (fun x => mb (fun y => op x y P) X) X) :=
  fun P X hm B F H σ wd g Q q xo => ha _ X hm B F H σ wd g _ (fun v F1 H1 x g1 w1 h1 r1 => hb _ X h1 B F1 H1 σ w1 (g.grow g1) _ (fun u F2 H2 y g2 w2 h2 r2 => by
    obtain ⟨d, pd, rv⟩ := hr x y P h2
    exact rv F2 H2 v u g2.fh (Rp.mono g2.ff r1) r2 Q fun z F3 H3 g3 r3 => q z F3 H3 d ((g1.trans g2).trans g3.weak) (w2.grow g3) pd r3) (xo.go g1)) xo
theorem rvI {r : R2} {c : Int → Int → Prop} {f : Int → Int → PyData} (h : ∀ i j, c i j → RV r (.int i) (.int j) (f i j)) : RVw r (opI c f) := fun x y k hk => by
  unfold opI at hk
  split at hk
  · exact ⟨_, hk.2, h _ _ hk.1⟩
  · exact hk.elim
theorem rvJ {r : R2} {f : Int → Int → PyData} (h : ∀ i j, RV r (.int i) (.int j) (f i j)) : RVw r (opJ f) := fun x y k hk => by
  unfold opJ at hk
  split at hk
  · exact ⟨_, hk, h _ _⟩
  · exact hk.elim
theorem ov_sub : RVw rSubI subW := rvJ fun i j => rv_sub
theorem ov_mod : RVw rModI modW := rvI fun i j h => rv_mod h
theorem ov_div : RVw rDivI divW := rvI fun i j h => rv_div h
theorem ov_pow : RVw rPowI powW := rvI fun i j h => rv_I (g := fun i j => .int (i ^ j.toNat)) h fun F => .int _
theorem ov_shl : RVw rShlI shlW := rvI fun i j h => rv_I (g := fun i j => .int (i * 2 ^ j.toNat)) h fun F => .int _
theorem ov_shr : RVw rShrI shrW := rvI fun i j h => rv_I (g := fun i j => .int (i / 2 ^ j.toNat)) h fun F => .int _
theorem ov_band : RVw rAndI bandW := rvJ fun i j => rv_I0 (g := fun i j => .int (Builtin.bitAnd i j)) fun F => .int _
theorem ov_bor : RVw rOrI borW := rvJ fun i j => rv_I0 (g := fun i j => .int (Builtin.bitOr i j)) fun F => .int _
theorem ov_bxor : RVw rXorI bxorW := rvJ fun i j => rv_I0 (g := fun i j => .int (Builtin.bitXor i j)) fun F => .int _
theorem ov_lt : RVw rLtI ltW := rvJ fun i j => rv_I0 (g := fun i j => .bl (decide (i < j))) fun F => .bl _
theorem ov_le : RVw rLeI leW := rvJ fun i j => rv_I0 (g := fun i j => .bl (decide (i ≤ j))) fun F => .bl _
theorem ov_gt : RVw rGtI gtW := rvJ fun i j => rv_I0 (g := fun i j => .bl (decide (j < i))) fun F => .bl _
theorem ov_ge : RVw rGeI geW := rvJ fun i j => rv_I0 (g := fun i j => .bl (decide (j ≤ i))) fun F => .bl _
theorem ov_eq : RVw (rEqA K) eqW := fun x y k ⟨h1, h2, h3⟩ => ⟨_, h3, fun F H v u s r1 r2 Q q => .inr ⟨x, y, (r1.mono s).dp h1, (r2.mono s).dp h2, h1, h2, q _ F H (.refl s) (.bl _)⟩⟩
theorem ov_ne : RVw (rNeA K) neW := fun x y k ⟨h1, h2, h3⟩ => ⟨_, h3, fun F H v u s r1 r2 Q q => .inr ⟨x, y, (r1.mono s).dp h1, (r2.mono s).dp h2, h1, h2, q _ F H (.refl s) (.bl _)⟩⟩
theorem rv_catT {xs ys : List PyData} (hz : xs.length + ys.length ≤ 100000) : RV (rAddA K) (.tuple xs) (.tuple ys) (.tuple (xs ++ ys)) := fun F H v u s r1 r2 Q q => by
  obtain ⟨a, us, rfl, h1, q1⟩ := r1.tup_inv
  obtain ⟨b, vs, rfl, h2, q2⟩ := r2.tup_inv
  refine .inr (.inr ⟨a, b, us, vs, rfl, rfl, SqT.of (s _ _ h1), SqT.of (s _ _ h2), by rw [q1.length, q2.length]; exact size_ok hz, fun e => ?_, fun _ e => ?_, fun _ _ p hp => ?_⟩)
  · subst e; cases q1
    exact q _ F H (.refl s) (.tup h2 q2)
  · subst e; cases q2
    exact q _ F H (.refl s) (by rw [List.append_nil]; exact .tup h1 q1)
  · exact q _ _ _ (.new s hp) (.tup upd_same ((q1.append q2).mono (Sub.new (s.none hp))))
theorem rv_catL {xs ys : List PyData} (hz : xs.length + ys.length ≤ 100000) : RV (rAddA K) (.list xs) (.list ys) (.list (xs ++ ys)) := fun F H v u s r1 r2 Q q => by
  obtain ⟨a, us, rfl, h1, q1⟩ := r1.lst_inv
  obtain ⟨b, vs, rfl, h2, q2⟩ := r2.lst_inv
  refine .inr (.inl ⟨a, b, us, vs, rfl, rfl, s _ _ h1, s _ _ h2, by rw [q1.length, q2.length]; exact size_ok hz, fun p hp => ?_⟩)
  exact q _ _ _ (.new s hp) (.lst upd_same ((q1.append q2).mono (Sub.new (s.none hp))))
theorem ov_add : RVw (rAddA K) addW := fun x y k hk => by
  unfold addW at hk
  split at hk
  · exact ⟨_, hk, rv_add⟩
  · exact ⟨_, hk.2, rv_catT hk.1⟩
  · exact ⟨_, hk.2, rv_catL hk.1⟩
  · exact hk.elim
theorem ov_mul : RVw (rMulA K) mulW := fun x y k hk => by
  unfold mulW at hk
  split at hk
  · exact ⟨_, hk.2, rv_mul hk.1⟩
  · rename_i xs j
    obtain ⟨h1, h2, h3, h4, h5⟩ := hk
    refine ⟨_, h5, fun F H v u s r1 r2 Q q => ?_⟩
    obtain ⟨a, us, rfl, e1, q1⟩ := r1.tup_inv
    rw [r2.int_inv]
    have ne : us ≠ [] := fun e => h1 (by subst e; cases q1; rfl)
    by_cases hj : 2 ≤ j
    · refine .inr (.inr (.inl ⟨a, j, us, rfl, rfl, SqT.of (s _ _ e1), ne, hj, h3, by rw [q1.length]; exact h4, fun p hp => ?_⟩))
      refine q _ _ _ (.new s hp) (.tup upd_same (RpAll.mono (Sub.new (s.none hp)) ?_))
      generalize j.toNat = n
      induction n with
      | zero => exact .nil
      | succ n ih => rw [List.replicate_succ, List.replicate_succ, List.flatten_cons, List.flatten_cons]; exact q1.append ih
    · refine .inr (.inr (.inr ⟨a, j, us, rfl, rfl, SqT.of (s _ _ e1), ne, ?_⟩))
      have : j = 0 ∨ j = 1 := by omega
      rcases this with rfl | rfl
      · exact .inr ⟨rfl, fun p hp => q _ _ _ (.new s hp) (.tup upd_same .nil)⟩
      · exact .inl ⟨rfl, q _ F H (.refl s) (by show Rp F _ (.tuple (xs ++ [])); rw [List.append_nil]; exact .tup e1 q1)⟩
  · exact hk.elim
theorem ew_isN (ha : Ew A C E ta Γ ma) : Ew A C E (tOp rIsN ta (tC .non)) Γ (fun P X => ma (fun x => isNW x P) X) :=
  fun P X hm B F H σ wd g Q q xo => ha _ X hm B F H σ wd g _ (fun v F1 H1 x g1 w1 h1 r1 => ⟨rfl, by rw [r1.isNon]; exact q _ F1 H1 _ g1 w1 h1 (.bl _)⟩) xo
theorem ew_notN (ha : Ew A C E ta Γ ma) : Ew A C E (tOp rNotN ta (tC .non)) Γ (fun P X => ma (fun x => notNW x P) X) :=
  fun P X hm B F H σ wd g Q q xo => ha _ X hm B F H σ wd g _ (fun v F1 H1 x g1 w1 h1 r1 => ⟨rfl, by rw [r1.isNon]; exact q _ F1 H1 _ g1 w1 h1 (.bl _)⟩) xo
theorem ew_neg (ha : Ew A C E ta Γ ma) : Ew A C E (tUn rNegI ta) Γ (fun P X => ma (fun x => negW x P) X) :=
  fun P X hm B F H σ wd g Q q xo => ha _ X hm B F H σ wd g _ (fun v F1 H1 x g1 w1 h1 r1 => by
    unfold negW at h1
    split at h1
    · rw [Rp.int_inv r1]; exact ⟨_, rfl, q _ F1 H1 _ g1 w1 h1 (.int _)⟩
    · exact h1.elim) xo
/-! arguments -/
theorem aw_nil : Aw A C E tNil Γ (fun P _ => P []) := fun P X hm B F H σ wd g Q q _ => q [] F H [] (.refl wd.sub) wd hm .nil
theorem aw_cons (ha : Ew A C E ta Γ ma) (hb : Aw A C E ts Γ l) : Aw A C E (tCons ta ts) Γ (fun P X => ma (fun x => l (fun xs => P (x :: xs)) X) X) :=
  fun P X hm B F H σ wd g Q q xo => ha _ X hm B F H σ wd g _ (fun v F1 H1 x g1 w1 h1 r1 => hb _ X h1 B F1 H1 σ w1 (g.grow g1) _ (fun vs F2 H2 xs g2 w2 h2 r2 =>
    q _ F2 H2 _ (g1.trans g2) w2 h2 (.cons (r1.mono g2.ff) r2)) (xo.go g1)) xo
theorem ew_tup (h : Aw A C E ts Γ l) : Ew A C E (tTup ts) Γ (fun P X => l (fun xs => dispT xs P) X) :=
  fun P X hm B F H σ wd g Q q xo => h _ X hm B F H σ wd g _ (fun vs F1 H1 xs g1 w1 h1 r1 => ⟨by rw [r1.length]; exact size_ok h1.1, fun p hp => by
    have gn : Grow [] F1 H1 (upd F1 p (.tup vs)) (upd H1 p (.tup vs)) := .new g1.fh hp
    exact q _ _ _ _ (g1.trans gn.weak) (w1.grow gn) h1.2 (.tup upd_same (r1.mono (Sub.new (g1.fh.none hp))))⟩) xo
theorem newM_wd {F H : Hp} {p : Addr} {o : HO} (wd : Wd C F H) (hp : H p = none) : Wd C F (upd H p o) := wd.grow (.newM wd.sub hp)
theorem nw_lst (h : Aw A C E ts Γ l) : Nw A C E (tLst ts) Γ (fun P X => l (fun xs => dispL xs P) X) :=
  fun P X hm B F H σ wd g Q q xo => h _ X hm B F H σ wd g _ (fun vs F1 H1 xs g1 w1 h1 r1 => ⟨by rw [r1.length]; exact size_ok h1.1, fun p hp =>
    q _ F1 _ _ (g1.trans (.newM g1.fh hp)) (newM_wd w1 hp) h1.2 ⟨p, vs, rfl, g1.fresh hp, g1.fh.none hp, fun z => w1.sH p z hp, upd_same, r1⟩⟩) xo
/-! reading lists -/
theorem ew_len (h : Sw A C E ta Γ l) : Ew A C E (tCB (rLenA K) (tCons ta tNil)) Γ (fun P X => l (fun xs => lenW xs P) X) :=
  fun P X hm B F H σ wd g Q q xo => h _ X hm B F H σ wd g _ (fun v F1 H1 xs g1 w1 h1 ⟨p, vs, e, _, hl, r⟩ => by
    subst e
    refine .inl ⟨p, vs, rfl, hl.imp SqL.of SqT.of, ?_⟩
    rw [r.length]
    exact q _ F1 H1 _ g1 w1 h1 (.int _)) xo
theorem ew_ix (ha : Sw A C E ta Γ l) (hb : Ew A C E tb Γ mb) : Ew A C E (tOp (rIx K) ta tb) Γ (fun P X => l (fun xs => mb (fun i => ixW xs i P) X) X) :=
  fun P X hm B F H σ wd g Q q xo => ha _ X hm B F H σ wd g _ (fun v F1 H1 xs g1 w1 h1 ⟨p, vs, e, n, hl, r⟩ => hb _ X h1 B F1 H1 σ w1 (g.grow g1) _ (fun u F2 H2 y g2 w2 h2 r2 => by
    subst e
    unfold ixW at h2
    split at h2
    · rename_i i
      obtain ⟨d, hd, pd⟩ := h2
      rw [r2.int_inv]
      obtain ⟨j, e1, e2⟩ : ∃ j, ixN xs.length i = some j ∧ xs[j]? = some d := by
        unfold atI at hd
        cases e : ixN xs.length i with
        | none => rw [e] at hd; cases hd
        | some j => rw [e] at hd; exact ⟨j, rfl, hd⟩
      obtain ⟨v, h3, h4⟩ := r.get e2
      have a : atI vs i = some v := by unfold atI; rw [r.length, e1]; exact h3
      rcases hl with hl | hl
      · exact .inl ⟨p, vs, i, v, rfl, rfl, SqL.of (g2.hh _ _ n hl), a, q v F2 H2 d (g1.trans g2) w2 pd (h4.mono g2.ff)⟩
      · exact .inr (.inl ⟨p, vs, i, v, rfl, rfl, SqT.of (g2.hh _ _ n hl), a, q v F2 H2 d (g1.trans g2) w2 pd (h4.mono g2.ff)⟩)
    · exact h2.elim) (xo.go g1)) xo
theorem ew_in (ha : Ew A C E ta Γ ma) (hb : Sw A C E tb Γ l) : Ew A C E (tOp (rInA K) ta tb) Γ (fun P X => ma (fun x => l (fun ys => inW x ys P) X) X) :=
  fun P X hm B F H σ wd g Q q xo => ha _ X hm B F H σ wd g _ (fun v F1 H1 x g1 w1 h1 r1 => hb _ X h1 B F1 H1 σ w1 (g.grow g1) _ (fun u F2 H2 ys g2 w2 h2 ⟨p, us, e, n, hl, r⟩ => by
    subst e
    obtain ⟨f1, f2, pk⟩ := h2
    have r1' := Rp.mono g2.ff r1
    refine .inl ⟨p, us, rfl, hl.imp SqL.of SqT.of, r1'.flat f1, r.flatD f2, ?_⟩
    rw [inV_eqv r1' r f1 f2]
    exact q _ F2 H2 _ (g1.trans g2) w2 pk (.bl _)) (xo.go g1)) xo
theorem ew_ni (ha : Ew A C E ta Γ ma) (hb : Sw A C E tb Γ l) : Ew A C E (tOp (rNiA K) ta tb) Γ (fun P X => ma (fun x => l (fun ys => niW x ys P) X) X) :=
  fun P X hm B F H σ wd g Q q xo => ha _ X hm B F H σ wd g _ (fun v F1 H1 x g1 w1 h1 r1 => hb _ X h1 B F1 H1 σ w1 (g.grow g1) _ (fun u F2 H2 ys g2 w2 h2 ⟨p, us, e, n, hl, r⟩ => by
    subst e
    obtain ⟨f1, f2, pk⟩ := h2
    have r1' := Rp.mono g2.ff r1
    refine .inl ⟨p, us, rfl, hl.imp SqL.of SqT.of, r1'.flat f1, r.flatD f2, ?_⟩
    rw [inV_eqv r1' r f1 f2]
    exact q _ F2 H2 _ (g1.trans g2) w2 pk (.bl _)) (xo.go g1)) xo
theorem ew_inL (ha : Ew A C E ta Γ ma) (hb : Ew A C E tb Γ mb) : Ew A C E (tOp (rInA K) ta tb) Γ (fun P X => ma (fun x => mb (fun y => inLW x y P) X) X) := ew_op (op := inLW) (fun x y k hk => by
  unfold inLW at hk
  split at hk
  · obtain ⟨h1, h2, h3⟩ := hk
    exact ⟨_, h3, fun F H v u s r1 r2 Q q => .inr ⟨x, _, (r1.mono s).dp h1, (r2.mono s).dp h2, h1, h2, q _ F H (.refl s) (.bl _)⟩⟩
  · exact hk.elim) ha hb
theorem ew_niL (ha : Ew A C E ta Γ ma) (hb : Ew A C E tb Γ mb) : Ew A C E (tOp (rNiA K) ta tb) Γ (fun P X => ma (fun x => mb (fun y => niLW x y P) X) X) := ew_op (op := niLW) (fun x y k hk => by
  unfold niLW at hk
  split at hk
  · obtain ⟨h1, h2, h3⟩ := hk
    exact ⟨_, h3, fun F H v u s r1 r2 Q q => .inr ⟨x, _, (r1.mono s).dp h1, (r2.mono s).dp h2, h1, h2, q _ F H (.refl s) (.bl _)⟩⟩
  · exact hk.elim) ha hb
theorem nw_list (h : Sw A C E ta Γ l) : Nw A C E (tCB (rListA K) (tCons ta tNil)) Γ l :=
  fun P X hm B F H σ wd g Q q xo => h _ X hm B F H σ wd g _ (fun v F1 H1 xs g1 w1 h1 ⟨p, vs, e, _, hl, r⟩ => by
    subst e
    exact ⟨p, vs, rfl, hl.imp SqL.of SqT.of, fun b hb => q _ F1 _ _ (g1.trans (.newM g1.fh hb)) (newM_wd w1 hb) h1 ⟨b, vs, rfl, g1.fresh hb, g1.fh.none hb, fun z => w1.sH b z hb, upd_same, r⟩⟩) xo
theorem ew_tupleL (h : Lw A C E ta Γ l) : Ew A C E (tThen ta (kTup K)) Γ (fun P X => l (fun xs => tupW xs P) X) :=
  fun P X hm B F H σ wd g Q q xo => h _ X hm B F H σ wd g _ (fun v F1 H1 xs g1 w1 h1 ⟨p, vs, e, _, hl, r⟩ => by
    subst e
    refine .inl ⟨p, vs, rfl, SqL.of hl, fun t ht => ?_⟩
    have gn : Grow [] F1 H1 (upd F1 t (.tup vs)) (upd H1 t (.tup vs)) := .new g1.fh ht
    exact q _ _ _ _ (g1.trans gn.weak) (w1.grow gn) h1 (.tup upd_same (r.mono (Sub.new (g1.fh.none ht))))) xo
theorem ew_tupleD (h : Ew A C E ta Γ ma) : Ew A C E (tThen ta (kTup K)) Γ (fun P X => ma (fun d => seqW d fun xs => tupW xs P) X) :=
  fun P X hm B F H σ wd g Q q xo => h _ X hm B F H σ wd g _ (fun v F1 H1 d g1 w1 h1 r => by
    cases r with
    | lst f ra =>
      refine .inl ⟨_, _, rfl, SqL.of (w1.sub _ _ f), fun t ht => ?_⟩
      rename_i a vs xs
      have gn : Grow [] F1 H1 (upd F1 t (.tup vs)) (upd H1 t (.tup vs)) := .new g1.fh ht
      exact q _ _ _ _ (g1.trans gn.weak) (w1.grow gn) h1 (.tup upd_same (ra.mono (Sub.new (g1.fh.none ht))))
    | tup f ra => exact .inr ⟨_, _, rfl, SqT.of (w1.sub _ _ f), q _ F1 H1 _ g1 w1 h1 (.tup f ra)⟩
    | _ => exact h1.elim) xo
theorem ew_un {r : List V → Hp → VK → Prop} {f : PyData → DP → Prop} (hr : ∀ x k, f x k → ∃ d, k d ∧ ∀ (F H : Hp) (v : V), Sub F H → Rp F v x → ∀ Q : VK, (∀ z, Rp F z d → Q z H) → r [v] H Q) (h : Ew A C E ta Γ ma) :
    Ew A C E (tCB r (tCons ta tNil)) Γ (fun P X => ma (fun x => f x P) X) :=
  fun P X hm B F H σ wd g Q q xo => h _ X hm B F H σ wd g _ (fun v F1 H1 x g1 w1 h1 r1 => by
    obtain ⟨d, pd, k⟩ := hr x P h1
    exact k F1 H1 v g1.fh r1 Q fun z rz => q z F1 H1 d g1 w1 pd rz) xo
theorem ew_cint (h : Ew A C E ta Γ ma) : Ew A C E (tCB rIntA (tCons ta tNil)) Γ (fun P X => ma (fun x => cintW x P) X) := ew_un (fun x k hk => by
  unfold cintW at hk
  split at hk
  · exact ⟨_, hk, fun F H v s r1 Q q => .inl ⟨_, by rw [r1.int_inv], q _ (.int _)⟩⟩
  · exact ⟨_, hk, fun F H v s r1 Q q => .inr ⟨_, by rw [r1.bl_inv], q _ (.int _)⟩⟩
  · exact hk.elim) h
theorem ew_abs (h : Ew A C E ta Γ ma) : Ew A C E (tCB rAbsA (tCons ta tNil)) Γ (fun P X => ma (fun x => absW x P) X) := ew_un (fun x k hk => by
  unfold absW at hk
  split at hk
  · exact ⟨_, hk, fun F H v s r1 Q q => ⟨_, by rw [r1.int_inv], q _ (.int _)⟩⟩
  · exact hk.elim) h
theorem ew_cstr (h : Ew A C E ta Γ ma) : Ew A C E (tCB rStrI (tCons ta tNil)) Γ (fun P X => ma (fun x => strW x P) X) := ew_un (fun x k hk => by
  unfold strW at hk
  split at hk
  · exact ⟨_, hk.2, fun F H v s r1 Q q => ⟨_, by rw [r1.int_inv], hk.1, q _ (.str _)⟩⟩
  · exact hk.elim) h
theorem ew_min2 (ha : Ew A C E ta Γ ma) (hb : Ew A C E tb Γ mb) : Ew A C E (tCB rMin2 (tCons ta (tCons tb tNil))) Γ (fun P X => ma (fun x => mb (fun y => min2W x y P) X) X) :=
  fun P X hm B F H σ wd g Q q xo => ha _ X hm B F H σ wd g _ (fun v F1 H1 x g1 w1 h1 r1 => hb _ X h1 B F1 H1 σ w1 (g.grow g1) _ (fun u F2 H2 y g2 w2 h2 r2 => by
    unfold min2W opJ at h2
    split at h2
    · rw [r1.int_inv, r2.int_inv]; exact ⟨_, _, rfl, q _ F2 H2 _ (g1.trans g2) w2 h2 (.int _)⟩
    · exact h2.elim) (xo.go g1)) xo
theorem ew_max2 (ha : Ew A C E ta Γ ma) (hb : Ew A C E tb Γ mb) : Ew A C E (tCB rMax2 (tCons ta (tCons tb tNil))) Γ (fun P X => ma (fun x => mb (fun y => max2W x y P) X) X) :=
  fun P X hm B F H σ wd g Q q xo => ha _ X hm B F H σ wd g _ (fun v F1 H1 x g1 w1 h1 r1 => hb _ X h1 B F1 H1 σ w1 (g.grow g1) _ (fun u F2 H2 y g2 w2 h2 r2 => by
    unfold max2W opJ at h2
    split at h2
    · rw [r1.int_inv, r2.int_inv]; exact ⟨_, _, rfl, q _ F2 H2 _ (g1.trans g2) w2 h2 (.int _)⟩
    · exact h2.elim) (xo.go g1)) xo
theorem ew_lcb {r : List V → Hp → VK → Prop} {f : List PyData → DP → Prop} (hr : ∀ xs k, f xs k → ∃ d, k d ∧ ∀ (F H : Hp) (p : Addr) (vs : List V), H p = some (.lst vs) → RpAll F vs xs → ∀ Q : VK, (∀ z, Rp F z d → Q z H) → r [.ref p] H Q) (h : Lw A C E ta Γ l) :
    Ew A C E (tCB r (tCons ta tNil)) Γ (fun P X => l (fun xs => f xs P) X) :=
  fun P X hm B F H σ wd g Q q xo => h _ X hm B F H σ wd g _ (fun v F1 H1 xs g1 w1 h1 ⟨p, vs, e, _, hl, ra⟩ => by
    subst e
    obtain ⟨d, pd, k⟩ := hr xs P h1
    exact k F1 H1 p vs hl ra Q fun z rz => q z F1 H1 d g1 w1 pd rz) xo
theorem ew_all (h : Lw A C E ta Γ l) : Ew A C E (tCB (rAll K) (tCons ta tNil)) Γ (fun P X => l (fun xs => allW xs P) X) :=
  ew_lcb (fun xs k ⟨bs, e, hk⟩ => ⟨_, hk, fun F H p vs hl ra Q q => by subst e; exact ⟨p, bs, rfl, SqL.of (by rw [hl, ra.bls]), q _ (.bl _)⟩⟩) h
theorem ew_any (h : Lw A C E ta Γ l) : Ew A C E (tCB (rAny K) (tCons ta tNil)) Γ (fun P X => l (fun xs => anyW xs P) X) :=
  ew_lcb (fun xs k ⟨bs, e, hk⟩ => ⟨_, hk, fun F H p vs hl ra Q q => by subst e; exact ⟨p, bs, rfl, SqL.of (by rw [hl, ra.bls]), q _ (.bl _)⟩⟩) h
theorem ew_sum (h : Lw A C E ta Γ l) : Ew A C E (tCB (rSum K) (tCons ta tNil)) Γ (fun P X => l (fun xs => sumW xs P) X) :=
  ew_lcb (fun xs k ⟨ns, e, hk⟩ => ⟨_, hk, fun F H p vs hl ra Q q => by subst e; exact ⟨p, ns, rfl, SqL.of (by rw [hl, ra.ints]), q _ (.int _)⟩⟩) h
theorem ew_minL (h : Lw A C E ta Γ l) : Ew A C E (tCB (rMin K) (tCons ta tNil)) Γ (fun P X => l (fun xs => minW xs P) X) :=
  ew_lcb (fun xs k ⟨ns, m, e, h1, h2, hk⟩ => ⟨_, hk, fun F H p vs hl ra Q q => by
    subst e
    refine ⟨p, ns, rfl, SqL.of (by rw [hl, ra.ints]), List.length_pos_of_mem h1, fun k hk hl => ?_⟩
    have e : k = m := Int.le_antisymm (hl m h1) (h2 k hk)
    subst e
    exact q _ (.int _)⟩) h
theorem ew_maxL (h : Lw A C E ta Γ l) : Ew A C E (tCB (rMax K) (tCons ta tNil)) Γ (fun P X => l (fun xs => maxW xs P) X) :=
  ew_lcb (fun xs k ⟨ns, m, e, h1, h2, hk⟩ => ⟨_, hk, fun F H p vs hl ra Q q => by
    subst e
    refine ⟨p, ns, rfl, SqL.of (by rw [hl, ra.ints]), List.length_pos_of_mem h1, fun k hk hl => ?_⟩
    have e : k = m := Int.le_antisymm (h2 k hk) (hl m h1)
    subst e
    exact q _ (.int _)⟩) h
/-! isinstance -/
theorem ew_isd {r : TE → TE} {f : PyData → DP → Prop} {b : PyData → Bool} (hf : ∀ x k, f x k → k (.bool (b x)))
    (hr : ∀ (Γ : List Sl) (i : Nat) (d : PyData), Γ[i]? = some (.dat d) → EvD (r (tVar i)) Γ (.bool (b d))) (hc : ∀ te σ H Q, te σ H (fun v H1 => r (tVar 0) [some v] H1 Q) → r te σ H Q) (h : Ew A C E ta Γ ma) : Ew A C E (r ta) Γ (fun P X => ma (fun x => f x P) X) :=
  fun P X hm B F H σ wd g Q q xo => hc _ _ _ _ (h _ X hm B F H σ wd g _ (fun v F1 H1 x g1 w1 h1 r1 => by
    refine hr [.dat x] 0 x rfl pc0 H1 F1 H1 [some v] (wd0 w1.sub) ⟨rfl, fun j s e => ?_, fun j k ds es p e => ?_⟩ Q fun z F2 H2 g2 r2 => q z F2 H2 _ (g1.trans g2.weak) (w1.grow g2) (hf x P h1) r2
    · match j, e with
      | 0, e => cases e; exact ⟨v, rfl, r1⟩
      | n + 1, e => cases e
    · match j, e with
      | 0, e => cases e
      | n + 1, e => cases e) xo)
theorem tcb_one {r : List V → Hp → VK → Prop} {x : V} {te : TE} {σ : L2.St} {H : Hp} {Q : VK} (h : te σ H (fun v H1 => tCB r (tCons (tVar 0) (tCons (tC x) tNil)) [some v] H1 Q)) : tCB r (tCons te (tCons (tC x) tNil)) σ H Q := by
  have e : (fun v H1 => tCB r (tCons (tVar 0) (tCons (tC x) tNil)) [some v] H1 Q) = fun v H1 => r [v, x] H1 Q := by
    funext v H1
    apply propext
    constructor
    · rintro ⟨u, e, q⟩
      cases e; exact q
    · exact fun q => ⟨v, rfl, q⟩
  rw [e] at h
  exact h
theorem ew_isInt (h : Ew A C E ta Γ ma) : Ew A C E (tCB (rIsi K) (tCons ta (tCons (tC (.ty "int")) tNil))) Γ (fun P X => ma (fun x => isIntW x P) X) :=
  ew_isd (r := fun te => tCB (rIsi K) (tCons te (tCons (tC (.ty "int")) tNil))) (fun x k hk => hk) (fun Γ i d h => ev_isInt (ev_var h)) (fun te σ H Q h => tcb_one h) h
theorem ew_isBl (h : Ew A C E ta Γ ma) : Ew A C E (tCB (rIsi K) (tCons ta (tCons (tC (.ty "bool")) tNil))) Γ (fun P X => ma (fun x => isBlW x P) X) :=
  ew_isd (r := fun te => tCB (rIsi K) (tCons te (tCons (tC (.ty "bool")) tNil))) (fun x k hk => hk) (fun Γ i d h => ev_isBl (ev_var h)) (fun te σ H Q h => tcb_one h) h
theorem ew_isStr (h : Ew A C E ta Γ ma) : Ew A C E (tCB (rIsi K) (tCons ta (tCons (tC (.ty "str")) tNil))) Γ (fun P X => ma (fun x => isStrW x P) X) :=
  ew_isd (r := fun te => tCB (rIsi K) (tCons te (tCons (tC (.ty "str")) tNil))) (fun x k hk => hk) (fun Γ i d h => ev_isStr (ev_var h)) (fun te σ H Q h => tcb_one h) h
theorem ew_isLst (h : Ew A C E ta Γ ma) : Ew A C E (tCB (rIsi K) (tCons ta (tCons (tC (.ty "list")) tNil))) Γ (fun P X => ma (fun x => isLstW x P) X) :=
  ew_isd (r := fun te => tCB (rIsi K) (tCons te (tCons (tC (.ty "list")) tNil))) (fun x k hk => hk) (fun Γ i d h => ev_isLst (ev_var h)) (fun te σ H Q h => tcb_one h) h
theorem ew_isTup (h : Ew A C E ta Γ ma) : Ew A C E (tCB (rIsi K) (tCons ta (tCons (tC (.ty "tuple")) tNil))) Γ (fun P X => ma (fun x => isTupW x P) X) :=
  ew_isd (r := fun te => tCB (rIsi K) (tCons te (tCons (tC (.ty "tuple")) tNil))) (fun x k hk => hk) (fun Γ i d h => ev_isTup (ev_var h)) (fun te σ H Q h => tcb_one h) h
theorem ew_isLT (h : Ew A C E ta Γ ma) : Ew A C E (tCB (rIsiT K) (tCons ta (tCons (tTup (tCons (tC (.ty "list")) (tCons (tC (.ty "tuple")) tNil))) tNil))) Γ (fun P X => ma (fun x => isLTW x P) X) :=
  ew_isd (r := fun te => tCB (rIsiT K) (tCons te (tCons (tTup (tCons (tC (.ty "list")) (tCons (tC (.ty "tuple")) tNil))) tNil))) (fun x k hk => hk) (fun Γ i d h => ev_isLT (ev_var h)) (fun te σ H Q h => by
    have e : (fun v H1 => tCB (rIsiT K) (tCons (tVar 0) (tCons (tTup (tCons (tC (.ty "list")) (tCons (tC (.ty "tuple")) tNil))) tNil)) [some v] H1 Q) = fun v H1 => tCons (tTup (tCons (tC (.ty "list")) (tCons (tC (.ty "tuple")) tNil))) tNil σ H1 (fun vs H2 => rIsiT K (v :: vs) H2 Q) := by
      funext v H1
      apply propext
      constructor
      · rintro ⟨u, e, q⟩
        cases e; exact q
      · exact fun q => ⟨v, rfl, q⟩
    rw [e] at h
    exact h) h
/-! tests -/
theorem tw_B (h : Ew A C E te Γ m) : Tw A C E (tB te) Γ (fun P X => m (fun x => boolW x P) X) :=
  fun P X hm B F H σ wd g Q q xo => h _ X hm B F H σ wd g _ (fun v F1 H1 x g1 w1 h1 r1 => by
    unfold boolW at h1
    split at h1
    · exact ⟨_, Rp.bl_inv r1, q _ F1 H1 g1 w1 h1⟩
    · exact h1.elim) xo
theorem tw_test (h : Ew A C E te Γ m) : Tw A C E (tTest te) Γ (fun P X => m (fun x => boolW x P) X) :=
  fun P X hm B F H σ wd g Q q xo => h _ X hm B F H σ wd g _ (fun v F1 H1 x g1 w1 h1 r1 => by
    unfold boolW at h1
    split at h1
    · exact ⟨_, Rp.bl_inv r1, q _ F1 H1 g1 w1 h1⟩
    · exact h1.elim) xo
theorem tw_yes : Tw A C E tYes Γ (fun P _ => P true) := fun P X hm B F H σ wd g Q q xo => q true F H (.refl wd.sub) wd hm
theorem tw_not (h : Tw A C E tt Γ mt) : Tw A C E (tNot tt) Γ (fun P X => mt (fun b => P (!b)) X) := fun P X hm B F H σ wd g Q q xo => h _ X hm B F H σ wd g _ (fun b F1 H1 g1 w1 h1 => q _ F1 H1 g1 w1 h1) xo
theorem tw_and (h : Tw A C E tt Γ mt) (h2 : Tw A C E tu Γ mu) : Tw A C E (tAnd tt tu) Γ (fun P X => andW (fun k => mt k X) (fun k => mu k X) P) :=
  fun P X hm B F H σ wd g Q q xo => h _ X hm B F H σ wd g _ (fun b F1 H1 g1 w1 h1 => by
    cases b with
    | true =>
      show tu σ H1 Q
      exact h2 _ X h1 B F1 H1 σ w1 (g.grow g1) Q (fun b F2 H2 g2 w2 p => q b F2 H2 (g1.trans g2) w2 p) (xo.go g1)
    | false => exact q _ F1 H1 g1 w1 h1) xo
theorem tw_or (h : Tw A C E tt Γ mt) (h2 : Tw A C E tu Γ mu) : Tw A C E (tOr tt tu) Γ (fun P X => orW (fun k => mt k X) (fun k => mu k X) P) :=
  fun P X hm B F H σ wd g Q q xo => h _ X hm B F H σ wd g _ (fun b F1 H1 g1 w1 h1 => by
    cases b with
    | true => exact q _ F1 H1 g1 w1 h1
    | false =>
      show tu σ H1 Q
      exact h2 _ X h1 B F1 H1 σ w1 (g.grow g1) Q (fun b F2 H2 g2 w2 p => q b F2 H2 (g1.trans g2) w2 p) (xo.go g1)) xo
theorem ew_andV (ha : Ew A C E ta Γ ma) (hb : Ew A C E tb Γ mb) : Ew A C E (tAndV ta tb) Γ (fun P X => andVW (fun k => ma k X) (fun k => mb k X) P) :=
  fun P X hm B F H σ wd g Q q xo => ha _ X hm B F H σ wd g _ (fun v F1 H1 x g1 w1 h1 r1 => by
    unfold boolW at h1
    split at h1
    · rename_i b
      refine ⟨b, r1.bl_inv, ?_⟩
      cases b with
      | true => exact hb _ X h1 B F1 H1 σ w1 (g.grow g1) Q (fun u F2 H2 y g2 w2 p r2 => q u F2 H2 y (g1.trans g2) w2 p r2) (xo.go g1)
      | false => exact q _ F1 H1 _ g1 w1 h1 (.bl _)
    · exact h1.elim) xo
theorem ew_orV (ha : Ew A C E ta Γ ma) (hb : Ew A C E tb Γ mb) : Ew A C E (tOrV ta tb) Γ (fun P X => orVW (fun k => ma k X) (fun k => mb k X) P) :=
  fun P X hm B F H σ wd g Q q xo => ha _ X hm B F H σ wd g _ (fun v F1 H1 x g1 w1 h1 r1 => by
    unfold boolW at h1
    split at h1
    · rename_i b
      refine ⟨b, r1.bl_inv, ?_⟩
      cases b with
      | true => exact q _ F1 H1 _ g1 w1 h1 (.bl _)
      | false => exact hb _ X h1 B F1 H1 σ w1 (g.grow g1) Q (fun u F2 H2 y g2 w2 p r2 => q u F2 H2 y (g1.trans g2) w2 p r2) (xo.go g1)
    · exact h1.elim) xo
theorem ew_notV (ha : Ew A C E ta Γ ma) : Ew A C E (tNotV ta) Γ (fun P X => ma (fun x => notW x P) X) :=
  fun P X hm B F H σ wd g Q q xo => ha _ X hm B F H σ wd g _ (fun v F1 H1 x g1 w1 h1 r1 => by
    unfold notW at h1
    split at h1
    · exact ⟨_, r1.bl_inv, q _ F1 H1 _ g1 w1 h1 (.bl _)⟩
    · exact h1.elim) xo
theorem ew_if (ht : Tw A C E tt Γ mt) (ha : Ew A C E ta Γ ma) (hb : Ew A C E tb Γ mb) : Ew A C E (tIf tt ta tb) Γ (fun P X => joinW (fun k => mt (fun b => iteW b (ma k X) (mb k X)) X) P) :=
  fun P X hm B F H σ wd g Q q xo => ht _ X hm B F H σ wd g _ (fun b F1 H1 g1 w1 h1 => by
    cases b with
    | true => exact ha _ X h1 B F1 H1 σ w1 (g.grow g1) Q (fun u F2 H2 y g2 w2 p r2 => q u F2 H2 y (g1.trans g2) w2 p r2) (xo.go g1)
    | false => exact hb _ X h1 B F1 H1 σ w1 (g.grow g1) Q (fun u F2 H2 y g2 w2 p r2 => q u F2 H2 y (g1.trans g2) w2 p r2) (xo.go g1)) xo
theorem ew_chain {r r' : R2} {o o' : OpW} (hr : RVw r o) (hr' : RVw r' o') (ha : Ew A C E ta Γ ma) (hb : Ew A C E tb Γ mb) (hc : Ew A C E tc Γ mc) :
    Ew A C E (tChain r r' ta tb tc) Γ (fun P X => ma (fun x => mb (fun y => chainW o o' x y (fun k => mc k X) P) X) X) :=
  fun P X hm B F H σ wd g Q q xo => ha _ X hm B F H σ wd g _ (fun v F1 H1 x g1 w1 h1 r1 => hb _ X h1 B F1 H1 σ w1 (g.grow g1) _ (fun u F2 H2 y g2 w2 h2 r2 => by
    obtain ⟨d, pd, rv⟩ := hr x y _ h2
    refine rv F2 H2 v u g2.fh (Rp.mono g2.ff r1) r2 _ fun z F3 H3 g3 r3 => ?_
    unfold boolW at pd
    split at pd
    · rename_i b
      refine ⟨b, r3.bl_inv, ?_⟩
      have w3 := w2.grow g3
      cases b with
      | true =>
        refine hc _ X pd B F3 H3 σ w3 ((((g.grow g1).grow g2)).grow g3.weak) _ (fun t F4 H4 z4 g4 w4 h4 r4 => ?_) (((xo.go g1).go g2).go g3.weak)
        obtain ⟨d5, pd5, rv5⟩ := hr' y z4 _ h4
        exact rv5 F4 H4 u t g4.fh (Rp.mono g4.ff (Rp.mono g3.ff r2)) r4 Q fun z5 F5 H5 g5 r5 => q z5 F5 H5 d5 ((((g1.trans g2).trans g3.weak).trans g4).trans g5.weak) (w4.grow g5) pd5 r5
      | false => exact q _ F3 H3 _ ((g1.trans g2).trans g3.weak) w3 pd (.bl _)
    · exact pd.elim) (xo.go g1)) xo
/-! slices -/
theorem ow_none : Ow A C E tNoPart Γ (fun P _ => P none) := fun P X hm B F H σ wd g Q q xo => q none F H (.refl wd.sub) wd hm
theorem ow_some (h : Ew A C E te Γ m) : Ow A C E (tPart te) Γ (fun P X => m (fun x => intW x fun i => P (some i)) X) := fun P X hm B F H σ wd g Q q xo => h _ X hm B F H σ wd g _ (fun v F1 H1 x g1 w1 h1 r1 => by
  unfold intW at h1
  split at h1
  · exact ⟨_, r1.int_inv, q _ F1 H1 g1 w1 h1⟩
  · exact h1.elim) xo
/-- of data: a tuple's is a tuple, a list's a new list -/
abbrev slDW (d : PyData) (lo hi : Option Int) (k : DP) : Prop := match d with | .tuple xs => k (.tuple (cutD xs lo hi)) | .list xs => k (.list (cutD xs lo hi)) | _ => False
theorem ew_sl {tl th : TO} {ml mh : MW (Option Int)} (h : Ew A C E te Γ m) (hl : Ow A C E tl Γ ml) (hh : Ow A C E th Γ mh) : Ew A C E (tSl (rSlB K) te tl th) Γ (fun P X => m (fun d => ml (fun lo => mh (fun hi => slDW d lo hi P) X) X) X) :=
  fun P X hm B F H σ wd g Q q xo => h _ X hm B F H σ wd g _ (fun v F1 H1 d g1 w1 h1 r1 => hl _ X h1 B F1 H1 σ w1 (g.grow g1) _ (fun lo F2 H2 g2 w2 h2 => hh _ X h2 B F2 H2 σ w2 ((g.grow g1).grow g2) _ (fun hi F3 H3 g3 w3 h3 => by
    have r3 := (Rp.mono g2.ff r1).mono g3.ff
    have gg := (g1.trans g2).trans g3
    cases r3 with
    | tup f ra =>
      rename_i a0 us ds0
      refine .inr ⟨_, _, rfl, SqT.of (w3.sub _ _ f), fun hw => ?_, fun _ p hp => ?_⟩
      · rw [ra.length] at hw
        exact q _ F3 H3 _ gg w3 h3 (by rw [cut_whole hw]; exact .tup f ra)
      · have gn : Grow [] F3 H3 (upd F3 p (.tup (cutV us lo hi))) (upd H3 p (.tup (cutV us lo hi))) := .new w3.sub hp
        exact q _ _ _ _ (gg.trans gn.weak) (w3.grow gn) h3 (.tup upd_same ((ra.cut lo hi).mono (Sub.new (w3.sub.none hp))))
    | lst f ra =>
      rename_i a0 us ds0
      refine .inl ⟨_, _, rfl, SqL.of (w3.sub _ _ f), fun p hp => ?_⟩
      have gn : Grow [] F3 H3 (upd F3 p (.lst (cutV us lo hi))) (upd H3 p (.lst (cutV us lo hi))) := .new w3.sub hp
      exact q _ _ _ _ (gg.trans gn.weak) (w3.grow gn) h3 (.lst upd_same ((ra.cut lo hi).mono (Sub.new (w3.sub.none hp))))
    | _ => exact h3.elim) ((xo.go g1).go g2)) (xo.go g1)) xo
theorem nw_sl {tl th : TO} {ml mh : MW (Option Int)} (h : Lw A C E te Γ l) (hl : Ow A C E tl Γ ml) (hh : Ow A C E th Γ mh) : Nw A C E (tSl (rSlB K) te tl th) Γ (fun P X => l (fun xs => ml (fun lo => mh (fun hi => cutW xs lo hi P) X) X) X) :=
  fun P X hm B F H σ wd g Q q xo => h _ X hm B F H σ wd g _ (fun v F1 H1 d g1 w1 h1 ⟨p, vs, e, n, hl', ra⟩ => hl _ X h1 B F1 H1 σ w1 (g.grow g1) _ (fun lo F2 H2 g2 w2 h2 => hh _ X h2 B F2 H2 σ w2 ((g.grow g1).grow g2) _ (fun hi F3 H3 g3 w3 h3 => by
    subst e
    have gg := (g1.trans g2).trans g3
    refine .inl ⟨p, vs, rfl, SqL.of (g3.hh _ _ n (g2.hh _ _ n hl')), fun q' hq => ?_⟩
    exact q _ F3 _ _ (gg.trans (.newM w3.sub hq)) (newM_wd w3 hq) h3 ⟨q', _, rfl, gg.fresh hq, w3.sub.none hq, fun z => w3.sH q' z hq, upd_same, ((ra.mono g2.ff).mono g3.ff).cut lo hi⟩) ((xo.go g1).go g2)) (xo.go g1)) xo
/-- lists joined -/
theorem nw_cat (ha : Lw A C E ta Γ la) (hb : Lw A C E tb Γ lb) : Nw A C E (tOp (rAddA K) ta tb) Γ (fun P X => la (fun xs => lb (fun ys => catW xs ys P) X) X) :=
  fun P X hm B F H σ wd g Q q xo => ha _ X hm B F H σ wd g _ (fun v F1 H1 xs g1 w1 h1 ⟨p, vs, e, n, hl, ra⟩ => hb _ X h1 B F1 H1 σ w1 (g.grow g1) _ (fun u F2 H2 ys g2 w2 h2 ⟨p2, us, e2, n2, hl2, ra2⟩ => by
    subst e e2
    refine .inr (.inl ⟨p, p2, vs, us, rfl, rfl, g2.hh _ _ n hl, hl2, by rw [ra.length, ra2.length]; exact size_ok h2.1, fun b hb => ?_⟩)
    have gg := g1.trans g2
    exact q _ F2 _ _ (gg.trans (.newM w2.sub hb)) (newM_wd w2 hb) h2.2 ⟨b, _, rfl, gg.fresh hb, w2.sub.none hb, fun z => w2.sH b z hb, upd_same, (ra.mono g2.ff).append ra2⟩) (xo.go g1)) xo
end
end Eh

namespace Eh
open PySem PySem.Spec PyProof.Rows L2
variable {A : Str → Addr} {C : Pc} {E : L2.St → XK} {Γ Γ' : List Sl} {K : PySem.W.Frag} {w : World}
section
variable {te ta tb tc : TE} {tt tu : TT} {ts : TA} {m ma mb mc : WD} {l la lb : WL} {mt mu : WT} {d : PyData} {ds : List PyData} {i : Nat}
/-! ### what is walked -/
theorem fw_seq (h : Ew A C E te Γ m) : Fw A C E (iSeq K te) Γ (fun P X => m (fun d => seqW d P) X) := fun P X hm B F H σ wd g R r xo => h _ X hm B F H σ wd g _ (fun v F1 H1 d g1 w1 h1 rv => by
  cases rv with
  | lst f ra => exact ⟨_, rfl, .inl ⟨⟨_, SqL.of (w1.sub _ _ f)⟩, r _ F1 H1 _ g1 w1 h1 fun F2 H2 s1 s2 => wk_list s2 (s2 _ _ (s1 _ _ f)) (ra.mono s1)⟩⟩
  | tup f ra => exact ⟨_, rfl, .inr ⟨⟨_, SqT.of (w1.sub _ _ f)⟩, r _ F1 H1 _ g1 w1 h1 fun F2 H2 s1 s2 => wk_tup s2 (s2 _ _ (s1 _ _ f)) (ra.mono s1)⟩⟩
  | _ => exact h1.elim) xo
theorem fw_seqN (h : Nw A C E te Γ l) : Fw A C E (iSeq K te) Γ l := fw_seq h.fz
theorem iw_seq (h : Sw A C E te Γ l) : Iw A C E (iSeq K te) Γ l := fun P X hm B F H σ wd g R r xo => h _ X hm B F H σ wd g _ (fun v F1 H1 ds g1 w1 h1 ⟨p, vs, e, n, hl, ra⟩ => by
  subst e
  refine ⟨p, rfl, ?_⟩
  rcases hl with hl | hl
  · exact .inl ⟨⟨vs, SqL.of hl⟩, r _ F1 H1 ds g1 w1 h1 fun F2 H2 g2 => wk_list g2.fh (g2.hh _ _ n hl) (ra.mono g2.ff)⟩
  · exact .inr ⟨⟨vs, SqT.of hl⟩, r _ F1 H1 ds g1 w1 h1 fun F2 H2 g2 => wk_tup g2.fh (g2.hh _ _ n hl) (ra.mono g2.ff)⟩) xo
/-- in an except suite -/
theorem iw_list (h : Lw A C E te Γ l) : Iw A C E (iList K te) Γ l := fun P X hm B F H σ wd g R r xo => h _ X hm B F H σ wd g _ (fun v F1 H1 ds g1 w1 h1 ⟨p, vs, e, n, hl, ra⟩ => by
  subst e
  exact ⟨p, rfl, ⟨vs, SqL.of hl⟩, r _ F1 H1 ds g1 w1 h1 fun F2 H2 g2 => wk_list g2.fh (g2.hh _ _ n hl) (ra.mono g2.ff)⟩) xo
theorem wk_rng {F F2 H2 : Hp} (i : Int) (n : Nat) (s2 : Sub F2 H2) : (∀ k d, ((List.range n).map fun k : Nat => PyData.int (i + k))[k]? = some d → (Itr i n).go k H2 ∧ ∀ x H', (Itr i n).yld k H2 x H' → ∃ F', Grow [] F2 H2 F' H' ∧ Rp F' x d) ∧ (Itr i n).stop ((List.range n).map fun k : Nat => PyData.int (i + k)).length H2 := by
  refine ⟨fun k d e => ?_, by show n ≤ _; simp⟩
  rw [List.getElem?_map] at e
  by_cases hi : k < n
  · rw [List.getElem?_range hi] at e
    cases e
    exact ⟨hi, fun x H' ⟨e1, e2⟩ => by subst e1 e2; exact ⟨F2, .refl s2, .int _⟩⟩
  · rw [List.getElem?_eq_none (by simpa using hi)] at e; cases e
theorem fw_rng1 (h : Ew A C E te Γ m) : Fw A C E (iRng1 (tCons te tNil)) Γ (fun P X => m (fun x => rngW x P) X) := fun P X hm B F H σ wd g R r xo => h _ X hm B F H σ wd g _ (fun v F1 H1 x g1 w1 h1 r1 => by
  unfold rngW at h1
  split at h1
  · rename_i n
    obtain ⟨h2, h3, h4⟩ := h1
    rw [r1.int_inv]
    have e : rgI n = (List.range n.toNat).map fun k : Nat => PyData.int ((0 : Int) + k) := List.map_congr_left fun k _ => by rw [Int.zero_add]
    rw [e] at h4
    exact ⟨n, rfl, by omega, by omega, r _ F1 H1 _ g1 w1 h4 fun F2 H2 s1 s2 => wk_rng (F := F2) 0 n.toNat s2⟩
  · exact h1.elim) xo
theorem fw_rng2 (ha : Ew A C E ta Γ ma) (hb : Ew A C E tb Γ mb) : Fw A C E (iRng2 (tCons ta (tCons tb tNil))) Γ (fun P X => ma (fun x => mb (fun y => rng2W x y P) X) X) := fun P X hm B F H σ wd g R r xo =>
  ha _ X hm B F H σ wd g _ (fun v F1 H1 x g1 w1 h1 r1 => hb _ X h1 B F1 H1 σ w1 (g.grow g1) _ (fun u F2 H2 y g2 w2 h2 r2 => by
    unfold rng2W at h2
    split at h2
    · rename_i i j
      obtain ⟨k1, k2, k3, k4, k5⟩ := h2
      rw [Rp.int_inv r1, Rp.int_inv r2]
      exact ⟨i, j, rfl, ⟨by omega, by omega, by omega, by omega⟩, r _ F2 H2 _ (g1.trans g2) w2 k5 fun F3 H3 s1 s2 => wk_rng (F := F3) i (j - i).toNat s2⟩
    · exact h2.elim) (xo.go g1)) xo
theorem fw_enum (h : Ew A C E te Γ m) : Fw A C E (iEnumA K (tCons te tNil)) Γ (fun P X => m (fun d => seqW d fun xs => letW (enumD xs) P) X) := fun P X hm B F H σ wd g R r xo => h _ X hm B F H σ wd g _ (fun v F1 H1 d g1 w1 h1 rv => by
  cases rv with
  | lst f ra => exact ⟨_, rfl, .inl ⟨⟨_, SqL.of (w1.sub _ _ f)⟩, r _ F1 H1 _ g1 w1 h1 fun F2 H2 s1 s2 => wk_enumL s2 (s2 _ _ (s1 _ _ f)) (ra.mono s1)⟩⟩
  | tup f ra => exact ⟨_, rfl, .inr ⟨⟨_, SqT.of (w1.sub _ _ f)⟩, r _ F1 H1 _ g1 w1 h1 fun F2 H2 s1 s2 => wk_enumT s2 (s2 _ _ (s1 _ _ f)) (ra.mono s1)⟩⟩
  | _ => exact h1.elim) xo
theorem iw_enum (h : Sw A C E te Γ l) : Iw A C E (iEnumA K (tCons te tNil)) Γ (fun P X => l (fun xs => letW (enumD xs) P) X) := fun P X hm B F H σ wd g R r xo => h _ X hm B F H σ wd g _ (fun v F1 H1 ds g1 w1 h1 ⟨p, vs, e, n, hl, ra⟩ => by
  subst e
  refine ⟨p, rfl, ?_⟩
  rcases hl with hl | hl
  · exact .inl ⟨⟨vs, SqL.of hl⟩, r _ F1 H1 _ g1 w1 h1 fun F2 H2 g2 => wk_enumL g2.fh (g2.hh _ _ n hl) (ra.mono g2.ff)⟩
  · exact .inr ⟨⟨vs, SqT.of hl⟩, r _ F1 H1 _ g1 w1 h1 fun F2 H2 g2 => wk_enumT g2.fh (g2.hh _ _ n hl) (ra.mono g2.ff)⟩) xo
/-! list(range(..)), tuple(range(..)) -/
theorem nw_rg (h : Ew A C E te Γ m) : Nw A C E (tLstRg (tRg1 te)) Γ (fun P X => m (fun x => rgLW x P) X) := fun P X hm B F H σ wd g Q q xo => h _ X hm B F H σ wd g _ (fun v F1 H1 x g1 w1 h1 r1 => by
  unfold rgLW at h1
  split at h1
  · rename_i n
    obtain ⟨h2, h3, h4⟩ := h1
    refine ⟨n, r1.int_inv, RgOk.of_le (by omega) (by omega) (by omega) (by omega), fun p hp => ?_⟩
    have e : rgI n = (List.range (n - 0).toNat).map fun k : Nat => PyData.int ((0 : Int) + k) := by rw [Int.sub_zero]; exact List.map_congr_left fun k _ => by rw [Int.zero_add]
    rw [e] at h4
    exact q _ F1 _ _ (g1.trans (.newM g1.fh hp)) (newM_wd w1 hp) h4 ⟨p, _, rfl, g1.fresh hp, g1.fh.none hp, fun z => w1.sH p z hp, upd_same, rpRg F1 0 n⟩
  · exact h1.elim) xo
theorem ew_tupRg (h : Ew A C E te Γ m) : Ew A C E (tTupRg (tRg1 te)) Γ (fun P X => m (fun x => rgLW x fun xs => tupW xs P) X) := fun P X hm B F H σ wd g Q q xo => h _ X hm B F H σ wd g _ (fun v F1 H1 x g1 w1 h1 r1 => by
  unfold rgLW at h1
  split at h1
  · rename_i n
    obtain ⟨h2, h3, h4⟩ := h1
    refine ⟨n, r1.int_inv, RgOk.of_le (by omega) (by omega) (by omega) (by omega), fun p hp => ?_⟩
    have e : rgI n = (List.range (n - 0).toNat).map fun k : Nat => PyData.int ((0 : Int) + k) := by rw [Int.sub_zero]; exact List.map_congr_left fun k _ => by rw [Int.zero_add]
    rw [e] at h4
    have gn : Grow [] F1 H1 (upd F1 p (.tup (rgV 0 n))) (upd H1 p (.tup (rgV 0 n))) := .new g1.fh hp
    exact q _ _ _ _ (g1.trans gn.weak) (w1.grow gn) h4 (.tup upd_same (rpRg _ 0 n))
  · exact h1.elim) xo
/-! ### comprehensions -/
theorem nw_lc {wi : TI} {g : TG} {vs : List Nat} {body : PyData → DP → Prop → Prop} (hi : Iw A C E wi Γ l)
    (hb : ∀ x Y N, body x Y N → ∃ Γx mt me, TgD g vs (wipeG Γ vs) x Γx ∧ Tw A C (fun _ => E0) tt Γx mt ∧ Ew A C (fun _ => E0) te Γx me ∧ mt (fun b => iteW b (me Y noX) N) noX) :
    Nw A C E (tLc wi g tt te vs) Γ (fun P X => l (fun items => lcW items body P) X) := fun P X hm B F H σ wd gm Q q xo =>
  hi _ X hm B F H σ wd gm _ (fun J F1 H1 xs g1 w1 hP wk D hD => by
    obtain ⟨hz, hgo⟩ := hP
    have e1 := gm.grow g1
    have nS : D ∉ C.S := fun z => w1.sH D z hD
    have nox : ∀ F H, XOk A C F H E0 noX := fun _ _ _ _ _ _ _ _ _ _ z => z.elim
    have mv : ∀ {F' H' : Hp} {acc : List V}, Grow C.S F1 H1 F' H' → F' D = none → H1 D = none → Grow C.S F1 H1 F' (upd H' D (.lst acc)) := fun {F' H' acc} gg f3 hD =>
      ⟨gg.ff, fun a o e => by
        have z : a ≠ D := fun z => by subst z; rw [f3] at e; cases e
        rw [upd_ne z]; exact gg.fh a o e, fun a o n e => by
        have z : a ≠ D := fun z => by subst z; rw [hD] at e; cases e
        rw [upd_ne z]; exact gg.hh a o n e, fun a e => upd_th (gg.th a e), gg.nw⟩
    refine ⟨fun i m H' => i + m = xs.length ∧ ∃ F' acc ds, Grow C.S F1 H1 F' H' ∧ Wd C F' H' ∧ F' D = none ∧ H' D = some (.lst acc) ∧ RpAll F' acc ds ∧ ds.length ≤ i ∧ lcGo body (xs.drop i) fun l => P (ds ++ l),
      ⟨xs.length, by omega, F1, [], [], .newM g1.fh hD, w1.grow (.newM g1.fh hD), g1.fh.none hD, upd_same, .nil, Nat.le_refl _, hgo⟩, fun i m H' ⟨hm, F', acc, ds, g2, w2, hF, hH, ra, hle, gen⟩ => ?_⟩
    by_cases hlt : i < xs.length
    · refine .inr ?_
      obtain ⟨x, hx⟩ : ∃ x, xs[i]? = some x := ⟨_, List.getElem?_eq_getElem hlt⟩
      have hdr : xs.drop i = x :: xs.drop (i + 1) := by
        rw [← (List.getElem?_eq_some_iff.mp hx).2, List.getElem_cons_drop]
      rw [hdr] at gen
      obtain ⟨Γx, mt, me, hg, ht, he, hmt⟩ := hb x _ _ gen
      obtain ⟨go, yl⟩ := (wk F' H' g2).1 i x hx
      refine ⟨go, fun H'' => ∃ F'' acc ds, Grow C.S F1 H1 F'' H'' ∧ Wd C F'' H'' ∧ F'' D = none ∧ H'' D = some (.lst acc) ∧ RpAll F'' acc ds ∧ ds.length ≤ i + 1 ∧ lcGo body (xs.drop (i + 1)) fun l => P (ds ++ l), fun H'' h'' => ⟨m - 1, by omega, by omega, h''⟩, fun v H'' y => ?_⟩
      obtain ⟨F'', g3, rv⟩ := yl v H'' y
      have g23 := g2.trans g3.weak
      have dF : F'' D = none := g3.nw D (by rw [hH]; exact fun z => nomatch z) hF
      refine hg C B F'' H'' (L2.wipe σ vs) v g3.fh ((e1.grow g23).wipe vs) rv _ fun σ' e2 hw => ⟨hw.trans (wipe_wipe σ vs), ?_⟩
      refine ht _ noX hmt B F'' H'' σ' (w2.grow g3) e2 _ (fun b F3 H3 g4 w4 pb => ?_) (nox _ _)
      have d3 : H3 D = some (.lst acc) := g4.hh _ _ nS (g3.sub _ _ hH)
      have f3 : F3 D = none := g4.nw D (by rw [g3.sub _ _ hH]; exact fun z => nomatch z) dF
      cases b with
      | true =>
        rw [if_pos rfl]
        refine he _ noX pb B F3 H3 σ' w4 (e2.grow g4) _ (fun u F4 H4 d g5 w5 pd ru => ?_) (nox _ _)
        have gg := (g23.trans g4).trans g5
        have f4 : F4 D = none := g5.nw D (by rw [d3]; exact fun z => nomatch z) f3
        refine ⟨acc, g5.hh _ _ nS d3, ?_, F4, acc ++ [u], ds ++ [d], mv gg f4 hD, w5.mut nS f4, f4, upd_same, ?_, ?_, ?_⟩
        · rw [ra.length]
          exact Nat.lt_of_le_of_lt (Nat.le_trans hle (Nat.le_trans (Nat.le_of_lt hlt) hz)) (by decide)
        · exact (((ra.mono g3.ff).mono g4.ff).mono g5.ff).append (.one ru)
        · rw [List.length_append]; exact Nat.succ_le_succ hle
        · have e : (fun l => P ((ds ++ [d]) ++ l)) = fun l => P (ds ++ (d :: l)) := funext fun l => by rw [List.append_assoc]; rfl
          rw [e]; exact pd
      | false =>
        rw [if_neg Bool.false_ne_true]
        exact ⟨F3, acc, ds, g23.trans g4, w4, f3, d3, (ra.mono g3.ff).mono g4.ff, Nat.le_succ_of_le hle, pb⟩
    · refine .inl ?_
      have ei : i = xs.length := by omega
      subst ei
      refine ⟨(wk F' H' g2).2, ?_⟩
      rw [List.drop_length] at gen
      have gen2 : P (ds ++ []) := gen
      rw [List.append_nil] at gen2
      exact q _ F' H' _ (g1.trans g2) w2 gen2 ⟨D, acc, rfl, g1.fresh' hD, hF, nS, hH, ra⟩) xo
theorem nw_lcM {wi : TI} {g : TG} {vs : List Nat} {body : PyData → DP → Prop} (hi : Iw A C E wi Γ l)
    (hb : ∀ x Y, body x Y → ∃ Γx me, TgD g vs (wipeG Γ vs) x Γx ∧ Ew A C (fun _ => E0) te Γx me ∧ me Y noX) :
    Nw A C E (tLc wi g tYes te vs) Γ (fun P X => l (fun items => lcMW items body P) X) :=
  nw_lc hi fun x Y N h => by
    obtain ⟨Γx, me, h1, h2, h3⟩ := hb x Y h
    exact ⟨Γx, _, me, h1, tw_yes, h2, h3⟩
/-! targets -/
theorem tg_un2 {vs : List Nat} {i j : Nat} {x : PyData} {k : PyData → PyData → Prop} (h1 : i ∈ vs) (h2 : j ∈ vs) (h : un2W x k) : ∃ a b, k a b ∧ TgD (gTup K 2 (gCons (gName i) (gCons (gName j) gNil))) vs Γ x ((Γ.set i (.dat a)).set j (.dat b)) := by
  unfold un2W at h
  split at h
  · exact ⟨_, _, h, tg_pair h1 h2⟩
  · exact h.elim
theorem tg_un3 {vs : List Nat} {i j n : Nat} {x : PyData} {k : PyData → PyData → PyData → Prop} (h1 : i ∈ vs) (h2 : j ∈ vs) (h3 : n ∈ vs) (h : un3W x k) :
    ∃ a b c, k a b c ∧ TgD (gTup K 3 (gCons (gName i) (gCons (gName j) (gCons (gName n) gNil)))) vs Γ x (((Γ.set i (.dat a)).set j (.dat b)).set n (.dat c)) := by
  unfold un3W at h
  split at h
  · refine ⟨_, _, _, h, fun C B F H σ z s g r Q q => ?_⟩
    obtain ⟨a, xs, rfl, f, ra⟩ := Rp.tup_inv r
    cases ra with
    | cons r1 ra =>
      cases ra with
      | cons r2 ra =>
        cases ra with
        | cons r3 ra =>
          cases ra
          refine ⟨a, _, rfl, SqT.of (s _ _ f), rfl, _, _, rfl, _, _, rfl, _, _, rfl, rfl, ?_⟩
          exact q _ (((g.dat r1).dat r2).dat r3) (by rw [wipe_set h3, wipe_set h2, wipe_set h1])
  · exact h.elim
/-! ### calls -/
/-- a def by its reading over data: no pool; a new list; with a pool -/
def spF (A : Str → Addr) (W : List PyData → WD) : Sp := fun vs H Q E => ∃ F ds P X, Sub F H ∧ RpAll F vs ds ∧ W ds P X ∧ (∀ d v F' H', P d → Grow [] F H F' H' → Rp F' v d → Q v H') ∧ XOk A pc0 F H E X
def spFN (A : Str → Addr) (W : List PyData → WL) : Sp := fun vs H Q E => ∃ F ds P X, Sub F H ∧ RpAll F vs ds ∧ W ds P X ∧
  (∀ es p us F' H', P es → Grow [] F H F' H' → H p = none → F' p = none → H' p = some (.lst us) → RpAll F' us es → Q (.ref p) H') ∧ XOk A pc0 F H E X
def spP (A : Str → Addr) (Fm : Pc → Prop) (W : List PyData → WD) : Sp := fun vs H Q E => ∃ C F ws ds P X, Fm C ∧ vs = .ref C.p :: ws ∧ Wd C F H ∧ RpAll F ws ds ∧ W ds P X ∧ (∀ d v F' H', P d → Grow C.S F H F' H' → Wd C F' H' → Rp F' v d → Q v H') ∧ XOk A C F H E X
def spPN (A : Str → Addr) (Fm : Pc → Prop) (W : List PyData → WL) : Sp := fun vs H Q E => ∃ C F ws ds P X, Fm C ∧ vs = .ref C.p :: ws ∧ Wd C F H ∧ RpAll F ws ds ∧ W ds P X ∧
  (∀ es p us F' H', P es → Grow C.S F H F' H' → Wd C F' H' → H p = none → F' p = none → p ∉ C.S → H' p = some (.lst us) → RpAll F' us es → Q (.ref p) H') ∧ XOk A C F H E X
theorem XOk.z {F H : Hp} {E : XK} {X : XP} (xo : XOk A C F H E X) (wd : Wd C F H) : XOk A pc0 F H E X := fun n f cv dd F' H' g _ => xo n f cv dd F' H' g.weak (wd.grow g)
section
variable {Wf : List PyData → WD} {Wn : List PyData → WL} {Fm : Pc → Prop} {e : XK}
theorem ew_call (h : Aw A C (fun _ => e) ts Γ l) : Ew A C (fun _ => e) (tCall (spF A Wf) [] e ts) Γ (fun P X => l (fun ds => Wf ds P X) X) := fun P X hm B F H σ wd g Q q xo =>
  h _ X hm B F H σ wd g _ (fun vs F1 H1 ds g1 w1 h1 r1 => ⟨F1, ds, P, X, w1.sub, by rw [List.append_nil]; exact r1, h1, fun d v F2 H2 pd g2 r2 => q v F2 H2 d (g1.trans g2.weak) (w1.grow g2) pd r2, (xo.go g1).z w1⟩) xo
theorem nw_call (h : Aw A C (fun _ => e) ts Γ l) : Nw A C (fun _ => e) (tCall (spFN A Wn) [] e ts) Γ (fun P X => l (fun ds => Wn ds P X) X) := fun P X hm B F H σ wd g Q q xo =>
  h _ X hm B F H σ wd g _ (fun vs F1 H1 ds g1 w1 h1 r1 => ⟨F1, ds, P, X, w1.sub, by rw [List.append_nil]; exact r1, h1, fun es p us F2 H2 pd g2 hn hf hl r2 =>
    q _ F2 H2 es (g1.trans g2.weak) (w1.grow g2) pd ⟨p, us, rfl, g1.fresh hn, hf, fun z => w1.sH p z hn, hl, r2⟩, (xo.go g1).z w1⟩) xo
theorem ew_callP (hF : Fm C) (hp : Γ[i]? = some .pool) (h : Aw A C (fun _ => e) ts Γ l) : Ew A C (fun _ => e) (tCall (spP A Fm Wf) [] e (tCons (tVar i) ts)) Γ (fun P X => l (fun ds => Wf ds P X) X) := fun P X hm B F H σ wd g Q q xo =>
  ⟨_, g.ok i _ hp, h _ X hm B F H σ wd g _ (fun vs F1 H1 ds g1 w1 h1 r1 => ⟨C, F1, vs, ds, P, X, hF, by rw [List.append_nil], w1, r1, h1, fun d v F2 H2 pd g2 w2 r2 => q v F2 H2 d (g1.trans g2) w2 pd r2, xo.go g1⟩) xo⟩
theorem nw_callP (hF : Fm C) (hp : Γ[i]? = some .pool) (h : Aw A C (fun _ => e) ts Γ l) : Nw A C (fun _ => e) (tCall (spPN A Fm Wn) [] e (tCons (tVar i) ts)) Γ (fun P X => l (fun ds => Wn ds P X) X) := fun P X hm B F H σ wd g Q q xo =>
  ⟨_, g.ok i _ hp, h _ X hm B F H σ wd g _ (fun vs F1 H1 ds g1 w1 h1 r1 => ⟨C, F1, vs, ds, P, X, hF, by rw [List.append_nil], w1, r1, h1, fun es p us F2 H2 pd g2 w2 hn hf hs hl r2 =>
    q _ F2 H2 es (g1.trans g2) w2 pd ⟨p, us, rfl, g1.fresh hn, hf, hs, hl, r2⟩, xo.go g1⟩) xo⟩
/-- in a try -/
theorem ew_callS (h : Aw A C E ts Γ l) : Ew A C E (tCallS (spF A Wf) E ts) Γ (fun P X => l (fun ds => Wf ds P X) X) := fun P X hm B F H σ wd g Q q xo =>
  h _ X hm B F H σ wd g _ (fun vs F1 H1 ds g1 w1 h1 r1 => ⟨F1, ds, P, X, w1.sub, r1, h1, fun d v F2 H2 pd g2 r2 => q v F2 H2 d (g1.trans g2.weak) (w1.grow g2) pd r2, (xo.go g1).z w1⟩) xo
end
end
/-! ### statements -/
inductive Wk : List Sl → List Sl → Prop
  | nil : Wk [] []
  | keep {s : Sl} {Γ Γ' : List Sl} : Wk Γ Γ' → Wk (s :: Γ) (s :: Γ')
  | drop {s : Sl} {Γ Γ' : List Sl} : Wk Γ Γ' → Wk (s :: Γ) (.no :: Γ')
theorem Wk.len {Γ Γ' : List Sl} (h : Wk Γ Γ') : Γ'.length = Γ.length := by
  induction h with
  | nil => rfl
  | keep _ ih => rw [List.length_cons, List.length_cons, ih]
  | drop _ ih => rw [List.length_cons, List.length_cons, ih]
theorem Wk.get {Γ Γ' : List Sl} (h : Wk Γ Γ') : ∀ {i : Nat} {s : Sl}, Γ'[i]? = some s → s = .no ∨ Γ[i]? = some s := by
  induction h with
  | nil => intro i s e; simp at e
  | keep _ ih =>
    intro i s e
    cases i with
    | zero => exact .inr e
    | succ i => exact ih (by simpa using e)
  | drop _ ih =>
    intro i s e
    cases i with
    | zero => cases e; exact .inl rfl
    | succ i => exact ih (by simpa using e)
theorem Wk.refl : ∀ Γ : List Sl, Wk Γ Γ
  | [] => .nil
  | _ :: Γ => .keep (Wk.refl Γ)
theorem Gm.wk {B F H : Hp} {σ : L2.St} (g : Gm C B F H σ Γ) (h : Wk Γ Γ') : Gm C B F H σ Γ' := by
  refine ⟨h.len.trans g.len, fun i s e => ?_, fun i j ds es p e1 e2 e3 e4 => ?_⟩
  · rcases h.get e with rfl | e
    · trivial
    · exact g.ok i s e
  · rcases h.get e1 with z | e1
    · cases z
    · rcases h.get e2 with z | e2
      · cases z
      · exact g.inj i j ds es p e1 e2 e3 e4
section
variable {B F0 : Hp} {D : Ends} {N0 b0 c0 : L2.St → Hp → Prop} {r0 : VK} {te ta tb : TE} {t u : TS} {tt : TT} {m ma mb : WD} {l la lb : WL} {mt : WT} {d x y : PyData} {ds es : List PyData} {i j : Nat} {rt : PyData → Prop} {rn : List PyData → Prop} {e : XK} {X : XP} {P : PyData → Prop} {p q : Prop} {Z : L2.St → Hp → Prop}
theorem at_wk (h : Wk Γ Γ') (k : At C B F0 Γ' Z) : At C B F0 Γ Z := fun F H σ w g e => k F H σ w g (e.wk h)
/-- where an error goes to -/
def RaiseT (A : Str → Addr) (C : Pc) (B F0 : Hp) (Γ : List Sl) (E : L2.St → XK) (X : XP) : Prop := ∀ F H σ cv dd n f, Wd C F H → Grow C.S F0 B F H → Gm C B F H σ Γ → X n f → XcOk (A n) f cv dd H → E σ cv dd H
def RaiseW (A : Str → Addr) (C : Pc) (B F0 : Hp) (e : XK) (X : XP) : Prop := ∀ F H cv dd n f, Wd C F H → Grow C.S F0 B F H → X n f → XcOk (A n) f cv dd H → e cv dd H
theorem RaiseW.tt0 (h : RaiseW A C B F0 e X) : RaiseT A C B F0 Γ (fun _ => e) X := fun F H σ cv dd n f w g _ x c => h F H cv dd n f w g x c
theorem RaiseW.chain {F1 H1 : Hp} (a : Grow C.S F0 B F1 H1) (h : RaiseW A C B F0 e X) : RaiseW A C B F1 e X := fun F H cv dd n f w g => h F H cv dd n f w (a.chain g)
theorem RaiseT.xo {F H : Hp} {σ : L2.St} (h : RaiseT A C B F0 Γ E X) (w : Wd C F H) (g : Grow C.S F0 B F H) (e : Gm C B F H σ Γ) : XOk A C F H (E σ) X := fun n f cv dd F' H' g' w' x c => h F' H' σ cv dd n f w' (g.trans g') (e.grow g') x c
theorem aw_asg {Γ' : PyData → List Sl} (hΓ : ∀ d, Γ.set i (.dat d) = Γ' d) (h : Ew A C E te Γ m) (hx : RaiseT A C B F0 Γ E X) (hm : m P X) (k : ∀ d, P d → At C B F0 (Γ' d) N0) : At C B F0 Γ (tAsg te (gName i) (Ends.mk N0 r0 b0 c0)) := fun F H σ w g e =>
  h P X hm B F H σ w e _ (fun v F1 H1 d g1 w1 pd r => k d pd F1 H1 _ w1 (g.trans g1) (by rw [← hΓ d]; exact (e.grow g1).dat r)) (hx.xo w g e)
theorem aw_asgN {P : List PyData → Prop} {Γ' : List PyData → List Sl} (hΓ : ∀ d, Γ.set i (.own d) = Γ' d) (h : Nw A C E te Γ l) (hx : RaiseT A C B F0 Γ E X) (hm : l P X) (k : ∀ d, P d → At C B F0 (Γ' d) N0) : At C B F0 Γ (tAsg te (gName i) (Ends.mk N0 r0 b0 c0)) := fun F H σ w g e =>
  h P X hm B F H σ w e _ (fun v F1 H1 ds g1 w1 pd ⟨p, vs, ev, hn, hf, hs, hl, r⟩ => by
    subst ev
    refine k ds pd F1 H1 _ w1 (g.trans g1) (by
      rw [← hΓ ds]
      refine (e.grow g1).set ⟨p, vs, rfl, hl, hf, g.fresh hn, hs, r⟩ fun ds' _ j es q eq h1 h2 => ?_
      cases eq
      obtain ⟨q, us, e1, h3, _⟩ := e.ok j _ h1
      rw [h2] at e1; cases e1
      rw [hn] at h3; cases h3)) (hx.xo w g e)
theorem aw_ret (hr : RetOk C B F0 D rt) (h : Ew A C E te Γ m) (hx : RaiseT A C B F0 Γ E X) (hm : m rt X) : At C B F0 Γ (tRet te D) := fun F H σ w g e =>
  h rt X hm B F H σ w e _ (fun v F1 H1 d g1 w1 pd r => hr F1 H1 v d w1 (g.trans g1) pd r) (hx.xo w g e)
theorem aw_retN (hr : RetN C B F0 D rn) (h : Nw A C E te Γ l) (hx : RaiseT A C B F0 Γ E X) (hm : l rn X) : At C B F0 Γ (tRet te D) := fun F H σ w g e =>
  h rn X hm B F H σ w e _ (fun v F1 H1 ds g1 w1 pd ⟨p, vs, ev, hn, hf, hs, hl, r⟩ => by
    subst ev
    exact hr F1 H1 p vs ds w1 (g.trans g1) (g.fresh hn) hf hs hl r pd) (hx.xo w g e)
theorem aw_retO (hr : RetN C B F0 D rn) (h : Γ[i]? = some (.own ds)) (hd : rn ds) : At C B F0 Γ (tRet (tVar i) D) := at_retO hr h hd
/-- .. as data -/
theorem aw_retF (hr : RetOk C B F0 D rt) (h : Γ[i]? = some (.own ds)) (hd : fzW ds rt) : At C B F0 Γ (tRet (tVar i) D) := fun F H σ w g e => by
  obtain ⟨p, vs, e1, hl, hf, hb, hs, r⟩ := e.ok i _ h
  exact ⟨_, e1, hr (upd F p (.lst vs)) H _ (.list ds) (w.freeze hs hl hf) (g.freeze hb hl hf) hd (.lst upd_same (r.mono (Sub.new hf)))⟩
theorem aw_retNone (hr : RetOk C B F0 D rt) (hd : rt .none) : At C B F0 Γ (tRetN D) := fun F H σ w g e => hr F H .non .none w g hd .non
theorem aw_drop (h : Ew A C E te Γ m) (hx : RaiseT A C B F0 Γ E X) (hm : m P X) (k : ∀ d, P d → At C B F0 Γ N0) : At C B F0 Γ (tDrop te (Ends.mk N0 r0 b0 c0)) := fun F H σ w g e =>
  h P X hm B F H σ w e _ (fun v F1 H1 d g1 w1 pd r => k d pd F1 H1 _ w1 (g.trans g1) (e.grow g1)) (hx.xo w g e)
theorem aw_if (h : Tw A C E tt Γ mt) (hx : RaiseT A C B F0 Γ E X) (hm : mt (fun b => iteW b p q) X) (h1 : p → At C B F0 Γ (t D)) (h2 : q → At C B F0 Γ (u D)) : At C B F0 Γ (tIfS tt t u D) := fun F H σ w g e =>
  h _ X hm B F H σ w e _ (fun b F1 H1 g1 w1 pb => by
    cases b with
    | true => exact h1 pb F1 H1 σ w1 (g.trans g1) (e.grow g1)
    | false => exact h2 pb F1 H1 σ w1 (g.trans g1) (e.grow g1)) (hx.xo w g e)
theorem aw_raise (n : Str) (hx : RaiseW A C B F0 e X) (hm : X n none) : At C B F0 Γ (tRaiseC e (A n) D) := fun F H σ w g _ => hx F H (.ref (A n)) none n none w g hm ⟨rfl, rfl⟩
theorem aw_append {Γ' : List PyData → List Sl} {P : List PyData → Prop} (hi : Γ[i]? = some (.own ds)) (hΓ : ∀ d, Γ.set i (.own d) = Γ' d) (h : Ew A C E te Γ m) (hx : RaiseT A C B F0 Γ E X) (hm : m (fun d => appW ds d P) X) (k : ∀ xs, P xs → At C B F0 (Γ' xs) N0) :
    At C B F0 Γ (tDrop (tBM K "list" rAppend (tVar i) (tCons te tNil)) (Ends.mk N0 r0 b0 c0)) := fun F H σ w g e => by
  obtain ⟨p, vs, e1, hl, hf, hb, hs, r⟩ := e.ok i _ hi
  refine ⟨_, e1, .inl ⟨rfl, vs, SqL.of hl⟩, h _ X hm B F H σ w e _ (fun v F1 H1 d g1 w1 pd rv => ?_) (hx.xo w g e)⟩
  have hl1 := g1.hh _ _ hs hl
  have hf1 := g1.nw p (by rw [hl]; exact fun z => nomatch z) hf
  have e2 : Gm C B F1 H1 σ Γ := e.grow g1
  exact ⟨p, vs, v, rfl, rfl, hl1, by rw [r.length]; exact size_lt pd.1, k _ pd.2 F1 _ σ (w1.mut hs hf1) ((g.trans g1).mut hb hf1) (by rw [← hΓ]; exact e2.mut hi e1 ((r.mono g1.ff).append (.one rv)))⟩
theorem aw_extend {Γ' : List PyData → List Sl} {P : List PyData → Prop} (hi : Γ[i]? = some (.own ds)) (hΓ : ∀ d, Γ.set i (.own d) = Γ' d) (h : Lw A C E te Γ l) (hx : RaiseT A C B F0 Γ E X) (hm : l (fun ys => extW ds ys P) X) (k : ∀ xs, P xs → At C B F0 (Γ' xs) N0) :
    At C B F0 Γ (tDrop (tBM K "list" rExtend (tVar i) (tCons te tNil)) (Ends.mk N0 r0 b0 c0)) := fun F H σ w g e => by
  obtain ⟨p, vs, e1, hl, hf, hb, hs, r⟩ := e.ok i _ hi
  refine ⟨_, e1, .inl ⟨rfl, vs, SqL.of hl⟩, h _ X hm B F H σ w e _ (fun v F1 H1 ys g1 w1 pd ⟨b, us, eb, nb, hlb, rb⟩ => ?_) (hx.xo w g e)⟩
  subst eb
  have hl1 := g1.hh _ _ hs hl
  have hf1 := g1.nw p (by rw [hl]; exact fun z => nomatch z) hf
  have e2 : Gm C B F1 H1 σ Γ := e.grow g1
  exact ⟨p, b, vs, us, rfl, rfl, hl1, hlb, by rw [r.length, rb.length]; exact size_ok pd.1, k _ pd.2 F1 _ σ (w1.mut hs hf1) ((g.trans g1).mut hb hf1) (by rw [← hΓ]; exact e2.mut hi e1 ((r.mono g1.ff).append rb))⟩
theorem aw_set {Γ' : List PyData → List Sl} {P : List PyData → Prop} (hi : Γ[i]? = some (.own ds)) (hΓ : ∀ d, Γ.set i (.own d) = Γ' d) (h : Ew A C E te Γ m) (hb' : Ew A C E tb Γ mb) (hx : RaiseT A C B F0 Γ E X) (hm : m (fun d => mb (fun n => setW ds n d P) X) X) (k : ∀ xs, P xs → At C B F0 (Γ' xs) N0) :
    At C B F0 Γ (tAsg te (gSub (tVar i) tb rSetL) (Ends.mk N0 r0 b0 c0)) := fun F H σ w g e => by
  obtain ⟨p, vs, e1, hl, hf, hb, hs, r⟩ := e.ok i _ hi
  refine h _ X hm B F H σ w e _ (fun v F1 H1 d g1 w1 pd rv => ⟨_, e1, hb' _ X pd B F1 H1 σ w1 (e.grow g1) _ (fun u F2 H2 n g2 w2 pn ru => ?_) ((hx.xo w g e).go g1)⟩) (hx.xo w g e)
  unfold setW at pn
  split at pn
  · rename_i n
    obtain ⟨j, hj, pk⟩ := pn
    rw [Rp.int_inv ru]
    have g12 := g1.trans g2
    have hl1 := g12.hh _ _ hs hl
    have hf1 := g12.nw p (by rw [hl]; exact fun z => nomatch z) hf
    have e2 : Gm C B F2 H2 σ Γ := e.grow g12
    exact ⟨p, vs, n, j, rfl, rfl, hl1, by rw [r.length]; exact hj, k _ pk F2 _ σ (w2.mut hs hf1) ((g.trans g12).mut hb hf1) (by rw [← hΓ]; exact e2.mut hi e1 ((r.mono g12.ff).set j (rv.mono g2.ff)))⟩
  · exact pn.elim
/-- own1.append(own2.pop(e)) -/
theorem aw_popTo {Γ' : List PyData → List PyData → List Sl} {P : List PyData → List PyData → Prop} (hx : Γ[i]? = some (.own ds)) (hy : Γ[j]? = some (.own es)) (hij : i ≠ j) (hΓ : ∀ a b, (Γ.set j (.own b)).set i (.own a) = Γ' a b) (h : Ew A C E te Γ m) (hX : RaiseT A C B F0 Γ E X)
    (hm : m (fun n => popW es n fun d es' => appW ds d fun ds' => P ds' es') X) (k : ∀ a b, P a b → At C B F0 (Γ' a b) N0) :
    At C B F0 Γ (tDrop (tBM K "list" rAppend (tVar i) (tCons (tBM K "list" rPopAt (tVar j) (tCons te tNil)) tNil)) (Ends.mk N0 r0 b0 c0)) := fun F H σ w g e => by
  obtain ⟨p, vs, e1, hl, hf, hb, hs, r⟩ := e.ok i _ hx
  obtain ⟨q, us, f1, kl, kf, kb, ks, rq⟩ := e.ok j _ hy
  refine ⟨_, e1, .inl ⟨rfl, vs, SqL.of hl⟩, _, f1, .inl ⟨rfl, us, SqL.of kl⟩, h _ X hm B F H σ w e _ (fun v F1 H1 n g1 w1 pn rv => ?_) (hX.xo w g e)⟩
  unfold popW at pn
  split at pn
  · rename_i n
    obtain ⟨z1, z2, z3, pk⟩ := pn
    rw [Rp.int_inv rv]
    obtain ⟨m, rfl⟩ : ∃ m : Nat, n = m := ⟨n.toNat, by omega⟩
    rw [Int.toNat_natCast] at pk
    have hm : m < es.length := by omega
    have npq : p ≠ q := fun z => hij (e.inj i j ds es p hx hy e1 (z ▸ f1))
    have e2 : Gm C B F1 H1 σ Γ := e.grow g1
    have kl1 := g1.hh _ _ ks kl
    have hl1 := g1.hh _ _ hs hl
    have rq1 := rq.mono g1.ff
    have hf1 := g1.nw p (by rw [hl]; exact fun z => nomatch z) hf
    have kf1 := g1.nw q (by rw [kl]; exact fun z => nomatch z) kf
    obtain ⟨d, hd⟩ : ∃ d, es[m]? = some d := ⟨_, List.getElem?_eq_getElem hm⟩
    obtain ⟨v, hv, rv⟩ := rq1.get hd
    obtain ⟨hz, pk2⟩ := pk d hd
    refine ⟨q, us, (m : Nat), m, v, rfl, rfl, kl1, by omega, by omega, ?_, hv, ?_⟩
    · rw [rq.length]; exact seqIndex_of (by omega) (by omega)
    · refine ⟨p, vs, v, rfl, rfl, by rw [upd_ne npq]; exact hl1, by rw [r.length]; exact size_lt hz, ?_⟩
      have e3 := e2.mut hy f1 (rq1.eraseIdx m)
      have hx' : (Γ.set j (.own (es.eraseIdx m)))[i]? = some (.own ds) := by rw [List.getElem?_set_ne (Ne.symm hij)]; exact hx
      have g3 := (g.trans g1).mut (o := .lst (us.eraseIdx m)) kb kf1
      exact k _ _ pk2 F1 _ σ ((w1.mut ks kf1).mut hs hf1) (g3.mut hb hf1) (by rw [← hΓ]; exact e3.mut hx' e1 ((r.mono g1.ff).append (.one rv)))
  · exact pn.elim
/-- x = own.pop(e) -/
theorem aw_pop {Γ' : PyData → List PyData → List Sl} {P : PyData → List PyData → Prop} (hy : Γ[j]? = some (.own es)) (hij : i ≠ j) (hΓ : ∀ a b, (Γ.set j (.own b)).set i (.dat a) = Γ' a b) (h : Ew A C E te Γ m) (hX : RaiseT A C B F0 Γ E X)
    (hm : m (fun n => popW es n P) X) (k : ∀ a b, P a b → At C B F0 (Γ' a b) N0) :
    At C B F0 Γ (tAsg (tBM K "list" rPopAt (tVar j) (tCons te tNil)) (gName i) (Ends.mk N0 r0 b0 c0)) := fun F H σ w g e => by
  obtain ⟨q, us, f1, kl, kf, kb, ks, rq⟩ := e.ok j _ hy
  refine ⟨_, f1, .inl ⟨rfl, us, SqL.of kl⟩, h _ X hm B F H σ w e _ (fun v F1 H1 n g1 w1 pn rv => ?_) (hX.xo w g e)⟩
  unfold popW at pn
  split at pn
  · rename_i n
    obtain ⟨z1, z2, z3, pk⟩ := pn
    rw [Rp.int_inv rv]
    obtain ⟨m, rfl⟩ : ∃ m : Nat, n = m := ⟨n.toNat, by omega⟩
    rw [Int.toNat_natCast] at pk
    have hm : m < es.length := by omega
    have e2 : Gm C B F1 H1 σ Γ := e.grow g1
    have kl1 := g1.hh _ _ ks kl
    have rq1 := rq.mono g1.ff
    have kf1 := g1.nw q (by rw [kl]; exact fun z => nomatch z) kf
    obtain ⟨d, hd⟩ : ∃ d, es[m]? = some d := ⟨_, List.getElem?_eq_getElem hm⟩
    obtain ⟨v, hv, rv⟩ := rq1.get hd
    refine ⟨q, us, (m : Nat), m, v, rfl, rfl, kl1, by omega, by omega, ?_, hv, ?_⟩
    · rw [rq.length]; exact seqIndex_of (by omega) (by omega)
    · exact k _ _ (pk d hd) F1 _ _ (w1.mut ks kf1) ((g.trans g1).mut kb kf1) (by rw [← hΓ]; exact (e2.mut hy f1 (rq1.eraseIdx m)).dat rv)
  · exact pn.elim
theorem aw_aug {Γ' : PyData → List Sl} {f : Int → Int → Int} (hi : Γ[i]? = some (.dat x)) (hΓ : ∀ d, Γ.set i (.dat d) = Γ' d) (h : Ew A C E te Γ m) (hx : RaiseT A C B F0 Γ E X) (hm : m (fun y => augW f x y P) X) (k : ∀ d, P d → At C B F0 (Γ' d) N0) :
    At C B F0 Γ (tAug i te (ipI f) (Ends.mk N0 r0 b0 c0)) := fun F H σ w g e => by
  obtain ⟨v, e1, r⟩ := e.get hi
  refine ⟨_, e1, h _ X hm B F H σ w e _ (fun u F1 H1 y g1 w1 h1 r1 => ?_) (hx.xo w g e)⟩
  unfold augW at h1
  split at h1
  · exact ⟨_, _, r.int_inv, Rp.int_inv r1, k _ h1 F1 H1 _ w1 (g.trans g1) (by rw [← hΓ]; exact (e.grow g1).dat (.int _))⟩
  · exact h1.elim
/-- what follows an if is named -/
theorem aw_join {κ : Type} {f : κ → Prop} {k : κ} (J : κ → (L2.St → Hp → Prop) → Prop) (h : joinW f k) (hj : J k (u D)) (hm : ∀ k, J k (u D) → f k → At C B F0 Γ (t (Ends.mk (u D) D.rt D.bk D.ct))) : At C B F0 Γ (tSeq t u D) := hm k hj h
theorem RetOk.of {D' : Ends} (h : RetOk C B F0 D rt) (e : D'.rt = D.rt) : RetOk C B F0 D' rt := fun F H v d w g p r => by
  rw [e]; exact h F H v d w g p r
theorem rok_chain (hr : RetOk C B F0 (Ends.mk N0 r0 b0 c0) rt) : ∀ F1 H1 D', Grow C.S F0 B F1 H1 → D'.rt = r0 → RetOk C B F1 D' rt := fun F1 H1 D' gr e F H v d w g h r => by
  rw [e]; exact hr F H v d w (gr.chain g) h r
theorem ron_chain (hr : RetN C B F0 (Ends.mk N0 r0 b0 c0) rn) : ∀ F1 H1 D', Grow C.S F0 B F1 H1 → D'.rt = r0 → RetN C B F1 D' rn := fun F1 H1 D' gr e F H p us es w g h1 h2 h3 h4 h5 h6 => by
  rw [e]; exact hr F H p us es w (gr.chain g) h1 h2 h3 h4 h5 h6
theorem aw_seq (h : At C B F0 Γ (t (Ends.mk (u D) D.rt D.bk D.ct))) : At C B F0 Γ (tSeq t u D) := h
theorem aw_next (h : At C B F0 Γ N0) : At C B F0 Γ (tNext (Ends.mk N0 r0 b0 c0)) := h
theorem aw_for {σT : Type} {wi : TI} {g : TG} {vs : List Nat} {body : PyData → σT → (σT → Prop) → (σT → Prop) → Prop} {done : σT → Prop} {s0 : σT} (Γs : σT → List Sl) (hw : Wk Γ (Γs s0)) (hi : Fw A C (fun _ => e) wi (Γs s0) l) (Ro : Hp → Ends → Prop) (hc0 : ∀ F1 H1 D', Grow C.S F0 B F1 H1 → D'.rt = r0 → Ro F1 D') (hx : RaiseW A C B F0 e X)
    (hm : l (fun items => forW body done items s0) X)
    (hb : ∀ (F0 : Hp) (x : PyData) (s : σT) (nx bk : σT → Prop) (D : Ends), Ro F0 D → RaiseW A C B F0 e X → (∀ s, nx s → At C B F0 (Γs s) D.nx) → (∀ s, nx s → At C B F0 (Γs s) D.ct) → (∀ s, bk s → At C B F0 (Γs s) D.bk) → body x s nx bk → ∃ Γx, TgD g vs (Γs s) x Γx ∧ At C B F0 Γx (t D))
    (hd : ∀ s, done s → At C B F0 (Γs s) N0) : At C B F0 Γ (tFor wi g t (Ends.mk N0 r0 b0 c0)) := fun F H σ w gr e =>
  hi _ X hm B F H σ w (e.wk hw) _ (fun J F1 H1 xs g1 w1 hP wk => by
    have gb : Grow C.S F0 B F1 H1 := gr.trans g1
    refine ⟨fun i m σ' H' => i + m = xs.length ∧ ∃ F' s, forW body done (xs.drop i) s ∧ Wd C F' H' ∧ Grow C.S F1 B F' H' ∧ Gm C B F' H' σ' (Γs s), ⟨xs.length, by omega, F1, s0, hP, w1, gb.start, (e.wk hw).grow g1⟩, fun i m σ' H' ⟨hm, F', s, is, w2, g2, e2⟩ => ?_⟩
    by_cases hlt : i < xs.length
    · refine .inr ?_
      obtain ⟨x, hx'⟩ : ∃ x, xs[i]? = some x := ⟨_, List.getElem?_eq_getElem hlt⟩
      have hdr : xs.drop i = x :: xs.drop (i + 1) := by
        rw [← (List.getElem?_eq_some_iff.mp hx').2, List.getElem_cons_drop]
      rw [hdr] at is
      obtain ⟨go, yl⟩ := (wk F' H' g2.ff g2.fh).1 i x hx'
      let N : L2.St → Hp → Prop := fun σ'' H'' => ∃ F'' s, forW body done (xs.drop (i + 1)) s ∧ Wd C F'' H'' ∧ Grow C.S F1 B F'' H'' ∧ Gm C B F'' H'' σ'' (Γs s)
      refine ⟨go, N, fun σ'' H'' h'' => ⟨m - 1, by omega, by omega, h''⟩, fun v H'' y => ?_⟩
      obtain ⟨F'', g3, rv⟩ := yl v H'' y
      obtain ⟨Γx, ht, hat⟩ := hb F1 x s _ _ (Ends.mk N r0 N0 N) (hc0 F1 H1 _ gb rfl) (hx.chain gb) (fun s hs F H σ w g e => ⟨F, s, hs, w, g, e⟩) (fun s hs F H σ w g e => ⟨F, s, hs, w, g, e⟩)
        (fun s hs => At.chain gb (hd s hs)) is
      exact ht C B F'' H'' σ' v g3.fh (e2.grow g3.weak) rv _ fun σ3 e3 _ => hat F'' H'' σ3 (w2.grow g3) (g2.trans g3.weak) e3
    · refine .inl ?_
      have ei : i = xs.length := by omega
      subst ei
      rw [List.drop_length] at is
      exact ⟨(wk F' H' g2.ff g2.fh).2, hd s is F' H' σ' w2 (gb.chain g2) e2⟩) ((RaiseW.tt0 hx).xo w gr (e.wk hw))
theorem aw_while {σT : Type} {cond : σT → (Bool → Prop) → Prop} {body : σT → (σT → Prop) → (σT → Prop) → Prop} {done : σT → Prop} {s0 : σT} (Γs : σT → List Sl) (hw : Wk Γ (Γs s0)) (Ro : Hp → Ends → Prop) (hc0 : ∀ F1 H1 D', Grow C.S F0 B F1 H1 → D'.rt = r0 → Ro F1 D') (hx : RaiseW A C B F0 e X)
    (hm : whileW s0 cond body done)
    (hc : ∀ s, ∃ mt, Tw A C (fun _ => e) tt (Γs s) mt ∧ ∀ k, cond s k → mt k X)
    (hb : ∀ (F0 : Hp) (s : σT) (nx bk : σT → Prop) (D : Ends), Ro F0 D → RaiseW A C B F0 e X → (∀ s, nx s → At C B F0 (Γs s) D.nx) → (∀ s, nx s → At C B F0 (Γs s) D.ct) → (∀ s, bk s → At C B F0 (Γs s) D.bk) → body s nx bk → At C B F0 (Γs s) (t D))
    (hd : ∀ s, done s → At C B F0 (Γs s) N0) : At C B F0 Γ (tWhile tt t (Ends.mk N0 r0 b0 c0)) := fun F H σ w gr e => by
  obtain ⟨I, μ, h0, hI⟩ := hm
  refine ⟨fun m σ' H' => ∃ s, m = μ s ∧ I s ∧ ∃ F', Wd C F' H' ∧ Grow C.S F0 B F' H' ∧ Gm C B F' H' σ' (Γs s), ⟨_, s0, rfl, h0, F, w, gr, e.wk hw⟩, fun m σ' H' ⟨s, hm, hIs, F', w2, g2, e2⟩ => ?_⟩
  subst hm
  obtain ⟨mt, htw, hmt⟩ := hc s
  refine htw _ X (hmt _ (hI s hIs)) B F' H' σ' w2 e2 _ (fun b F3 H3 g3 w3 pb => ?_) ((RaiseW.tt0 hx).xo w2 g2 e2)
  cases b with
  | true =>
    rw [if_pos rfl]
    let N : L2.St → Hp → Prop := fun σ'' H'' => ∃ s', μ s' < μ s ∧ I s' ∧ ∃ F'', Wd C F'' H'' ∧ Grow C.S F0 B F'' H'' ∧ Gm C B F'' H'' σ'' (Γs s')
    refine ⟨N, fun σ'' H'' ⟨s', hl, hI', k⟩ => ⟨μ s', hl, s', rfl, hI', k⟩, ?_⟩
    have gb := g2.trans g3
    exact hb F0 s (fun s' => I s' ∧ μ s' < μ s) done (Ends.mk N r0 N0 N) (hc0 F0 H3 _ ⟨Sub.refl _, fun a o h => gb.fh a o (gb.ff a o h), gb.hh, gb.th, fun _ _ n => n⟩ rfl) hx (fun s' hs F H σ w g e => ⟨s', hs.2, hs.1, F, w, g, e⟩) (fun s' hs F H σ w g e => ⟨s', hs.2, hs.1, F, w, g, e⟩) hd pb F3 H3 σ' w3 (g2.trans g3) (e2.grow g3)
  | false =>
    rw [if_neg Bool.false_ne_true]
    exact hd s pb F3 H3 σ' w3 (g2.trans g3) (e2.grow g3)
end
/-! ### a def's body -/
section
variable {N : List Str} {t : XK → TS} {vs : List V} {H : Hp} {Q : VK} {E : XK} {Fm : Pc → Prop}
theorem spF_body {W : List PyData → WD} (h : spF A W vs H Q E)
    (hb : ∀ ds rt er (B F0 : Hp) (D : Ends), W ds rt er → RetOk pc0 B F0 D rt → RaiseW A pc0 B F0 E er → (rt .none → ∀ Γ, At pc0 B F0 Γ D.nx) → At pc0 B F0 (startG N.length ds) (t E D)) : t E { nx := fun _ H' => Q .non H', rt := Q } (L2.start N vs) H := by
  obtain ⟨F, ds, P, X, s, r, hW, hok, herr⟩ := h
  exact hb ds P X H F { nx := fun _ H' => Q .non H', rt := Q } hW (fun F1 H1 v d _ g pd rd => hok d v F1 H1 pd g rd) (fun F1 H1 cv dd n f w g x c => herr n f cv dd F1 H1 g w x c)
    (fun pn Γ F1 H1 σ _ g _ => hok .none .non F1 H1 pn g .non) F H _ (wd0 s) (.refl s) (start_gm r)
theorem spFN_body {W : List PyData → WL} (h : spFN A W vs H Q E)
    (hb : ∀ ds rt er (B F0 : Hp) (D : Ends), W ds rt er → RetN pc0 B F0 D rt → RaiseW A pc0 B F0 E er → At pc0 B F0 (startG N.length ds) (t E D)) : t E { nx := fun _ H' => Q .non H', rt := Q } (L2.start N vs) H := by
  obtain ⟨F, ds, P, X, s, r, hW, hok, herr⟩ := h
  exact hb ds P X H F { nx := fun _ H' => Q .non H', rt := Q } hW (fun F1 H1 p us es _ g hb hf _ hl ra pd => hok es p us F1 H1 pd g hb hf hl ra) (fun F1 H1 cv dd n f w g x c => herr n f cv dd F1 H1 g w x c) F H _ (wd0 s) (.refl s) (start_gm r)
theorem spP_body {W : List PyData → WD} (h : spP A Fm W vs H Q E)
    (hb : ∀ C, Fm C → ∀ ds rt er (B F0 : Hp) (D : Ends), W ds rt er → RetOk C B F0 D rt → RaiseW A C B F0 E er → (rt .none → ∀ Γ, At C B F0 Γ D.nx) → At C B F0 (startP N.length ds) (t E D)) : t E { nx := fun _ H' => Q .non H', rt := Q } (L2.start N vs) H := by
  obtain ⟨C, F, ws, ds, P, X, hf, rfl, w, r, hW, hok, herr⟩ := h
  exact hb C hf ds P X H F { nx := fun _ H' => Q .non H', rt := Q } hW (fun F1 H1 v d w1 g pd rd => hok d v F1 H1 pd g w1 rd) (fun F1 H1 cv dd n f w g x c => herr n f cv dd F1 H1 g w x c)
    (fun pn Γ F1 H1 σ w1 g _ => hok .none .non F1 H1 pn g w1 .non) F H _ w (.refl w.sub) (startP_gm r)
theorem spPN_body {W : List PyData → WL} (h : spPN A Fm W vs H Q E)
    (hb : ∀ C, Fm C → ∀ ds rt er (B F0 : Hp) (D : Ends), W ds rt er → RetN C B F0 D rt → RaiseW A C B F0 E er → At C B F0 (startP N.length ds) (t E D)) : t E { nx := fun _ H' => Q .non H', rt := Q } (L2.start N vs) H := by
  obtain ⟨C, F, ws, ds, P, X, hf, rfl, w, r, hW, hok, herr⟩ := h
  exact hb C hf ds P X H F { nx := fun _ H' => Q .non H', rt := Q } hW (fun F1 H1 p us es w1 g hb hf hs hl ra pd => hok es p us F1 H1 pd g w1 hb hf hs hl ra) (fun F1 H1 cv dd n f w g x c => herr n f cv dd F1 H1 g w x c) F H _ w (.refl w.sub) (startP_gm r)
theorem spF_len {W : List PyData → WD} {n : Nat} (h : ∀ ds P X, W ds P X → ds.length = n) : ∀ vs H Q E, spF A W vs H Q E → vs.length = n := fun vs H Q E ⟨F, ds, P, X, _, r, hW, _⟩ => r.length.trans (h ds P X hW)
theorem spFN_len {W : List PyData → WL} {n : Nat} (h : ∀ ds P X, W ds P X → ds.length = n) : ∀ vs H Q E, spFN A W vs H Q E → vs.length = n := fun vs H Q E ⟨F, ds, P, X, _, r, hW, _⟩ => r.length.trans (h ds P X hW)
theorem spP_len {W : List PyData → WD} {n : Nat} (h : ∀ ds P X, W ds P X → ds.length + 1 = n) : ∀ vs H Q E, spP A Fm W vs H Q E → vs.length = n := fun vs H Q E ⟨C, F, ws, ds, P, X, _, e, _, r, hW, _⟩ => by
  rw [e, List.length_cons, r.length]; exact h ds P X hW
theorem spPN_len {W : List PyData → WL} {n : Nat} (h : ∀ ds P X, W ds P X → ds.length + 1 = n) : ∀ vs H Q E, spPN A Fm W vs H Q E → vs.length = n := fun vs H Q E ⟨C, F, ws, ds, P, X, _, e, _, r, hW, _⟩ => by
  rw [e, List.length_cons, r.length]; exact h ds P X hW
end
end Eh

namespace Eh
open PySem PySem.Spec PyProof.Rows L2
/-! ### a def's arguments in a row -/
abbrev vl0 {α : Type} (f : (α → Prop) → XP → Prop) (ds : List PyData) (P : α → Prop) (X : XP) : Prop := match ds with | [] => f P X | _ => False
theorem vl0_inv {α : Type} {f : (α → Prop) → XP → Prop} {ds : List PyData} {P : α → Prop} {X : XP} (h : vl0 f ds P X) : ds = [] ∧ f P X := by
  unfold vl0 at h
  split at h
  · exact ⟨rfl, h⟩
  · exact h.elim
theorem vl0_len {α : Type} {f : (α → Prop) → XP → Prop} (ds : List PyData) (P : α → Prop) (X : XP) (h : vl0 f ds P X) : ds.length = 0 := by
  obtain ⟨rfl, _⟩ := vl0_inv h
  rfl
abbrev vl1 {α : Type} (f : PyData → (α → Prop) → XP → Prop) (ds : List PyData) (P : α → Prop) (X : XP) : Prop := match ds with | [a1] => f a1 P X | _ => False
theorem vl1_inv {α : Type} {f : PyData → (α → Prop) → XP → Prop} {ds : List PyData} {P : α → Prop} {X : XP} (h : vl1 f ds P X) : ∃ a1, ds = [a1] ∧ f a1 P X := by
  unfold vl1 at h
  split at h
  · exact ⟨_, rfl, h⟩
  · exact h.elim
theorem vl1_len {α : Type} {f : PyData → (α → Prop) → XP → Prop} (ds : List PyData) (P : α → Prop) (X : XP) (h : vl1 f ds P X) : ds.length = 1 := by
  obtain ⟨_, rfl, _⟩ := vl1_inv h
  rfl
abbrev vl2 {α : Type} (f : PyData → PyData → (α → Prop) → XP → Prop) (ds : List PyData) (P : α → Prop) (X : XP) : Prop := match ds with | [a1, a2] => f a1 a2 P X | _ => False
theorem vl2_inv {α : Type} {f : PyData → PyData → (α → Prop) → XP → Prop} {ds : List PyData} {P : α → Prop} {X : XP} (h : vl2 f ds P X) : ∃ a1 a2, ds = [a1, a2] ∧ f a1 a2 P X := by
  unfold vl2 at h
  split at h
  · exact ⟨_, _, rfl, h⟩
  · exact h.elim
theorem vl2_len {α : Type} {f : PyData → PyData → (α → Prop) → XP → Prop} (ds : List PyData) (P : α → Prop) (X : XP) (h : vl2 f ds P X) : ds.length = 2 := by
  obtain ⟨_, _, rfl, _⟩ := vl2_inv h
  rfl
abbrev vl3 {α : Type} (f : PyData → PyData → PyData → (α → Prop) → XP → Prop) (ds : List PyData) (P : α → Prop) (X : XP) : Prop := match ds with | [a1, a2, a3] => f a1 a2 a3 P X | _ => False
theorem vl3_inv {α : Type} {f : PyData → PyData → PyData → (α → Prop) → XP → Prop} {ds : List PyData} {P : α → Prop} {X : XP} (h : vl3 f ds P X) : ∃ a1 a2 a3, ds = [a1, a2, a3] ∧ f a1 a2 a3 P X := by
  unfold vl3 at h
  split at h
  · exact ⟨_, _, _, rfl, h⟩
  · exact h.elim
theorem vl3_len {α : Type} {f : PyData → PyData → PyData → (α → Prop) → XP → Prop} (ds : List PyData) (P : α → Prop) (X : XP) (h : vl3 f ds P X) : ds.length = 3 := by
  obtain ⟨_, _, _, rfl, _⟩ := vl3_inv h
  rfl
abbrev vl4 {α : Type} (f : PyData → PyData → PyData → PyData → (α → Prop) → XP → Prop) (ds : List PyData) (P : α → Prop) (X : XP) : Prop := match ds with | [a1, a2, a3, a4] => f a1 a2 a3 a4 P X | _ => False
theorem vl4_inv {α : Type} {f : PyData → PyData → PyData → PyData → (α → Prop) → XP → Prop} {ds : List PyData} {P : α → Prop} {X : XP} (h : vl4 f ds P X) : ∃ a1 a2 a3 a4, ds = [a1, a2, a3, a4] ∧ f a1 a2 a3 a4 P X := by
  unfold vl4 at h
  split at h
  · exact ⟨_, _, _, _, rfl, h⟩
  · exact h.elim
theorem vl4_len {α : Type} {f : PyData → PyData → PyData → PyData → (α → Prop) → XP → Prop} (ds : List PyData) (P : α → Prop) (X : XP) (h : vl4 f ds P X) : ds.length = 4 := by
  obtain ⟨_, _, _, _, rfl, _⟩ := vl4_inv h
  rfl
abbrev vl5 {α : Type} (f : PyData → PyData → PyData → PyData → PyData → (α → Prop) → XP → Prop) (ds : List PyData) (P : α → Prop) (X : XP) : Prop := match ds with | [a1, a2, a3, a4, a5] => f a1 a2 a3 a4 a5 P X | _ => False
theorem vl5_inv {α : Type} {f : PyData → PyData → PyData → PyData → PyData → (α → Prop) → XP → Prop} {ds : List PyData} {P : α → Prop} {X : XP} (h : vl5 f ds P X) : ∃ a1 a2 a3 a4 a5, ds = [a1, a2, a3, a4, a5] ∧ f a1 a2 a3 a4 a5 P X := by
  unfold vl5 at h
  split at h
  · exact ⟨_, _, _, _, _, rfl, h⟩
  · exact h.elim
theorem vl5_len {α : Type} {f : PyData → PyData → PyData → PyData → PyData → (α → Prop) → XP → Prop} (ds : List PyData) (P : α → Prop) (X : XP) (h : vl5 f ds P X) : ds.length = 5 := by
  obtain ⟨_, _, _, _, _, rfl, _⟩ := vl5_inv h
  rfl
abbrev vl6 {α : Type} (f : PyData → PyData → PyData → PyData → PyData → PyData → (α → Prop) → XP → Prop) (ds : List PyData) (P : α → Prop) (X : XP) : Prop := match ds with | [a1, a2, a3, a4, a5, a6] => f a1 a2 a3 a4 a5 a6 P X | _ => False
theorem vl6_inv {α : Type} {f : PyData → PyData → PyData → PyData → PyData → PyData → (α → Prop) → XP → Prop} {ds : List PyData} {P : α → Prop} {X : XP} (h : vl6 f ds P X) : ∃ a1 a2 a3 a4 a5 a6, ds = [a1, a2, a3, a4, a5, a6] ∧ f a1 a2 a3 a4 a5 a6 P X := by
  unfold vl6 at h
  split at h
  · exact ⟨_, _, _, _, _, _, rfl, h⟩
  · exact h.elim
theorem vl6_len {α : Type} {f : PyData → PyData → PyData → PyData → PyData → PyData → (α → Prop) → XP → Prop} (ds : List PyData) (P : α → Prop) (X : XP) (h : vl6 f ds P X) : ds.length = 6 := by
  obtain ⟨_, _, _, _, _, _, rfl, _⟩ := vl6_inv h
  rfl
abbrev vl7 {α : Type} (f : PyData → PyData → PyData → PyData → PyData → PyData → PyData → (α → Prop) → XP → Prop) (ds : List PyData) (P : α → Prop) (X : XP) : Prop := match ds with | [a1, a2, a3, a4, a5, a6, a7] => f a1 a2 a3 a4 a5 a6 a7 P X | _ => False
theorem vl7_inv {α : Type} {f : PyData → PyData → PyData → PyData → PyData → PyData → PyData → (α → Prop) → XP → Prop} {ds : List PyData} {P : α → Prop} {X : XP} (h : vl7 f ds P X) : ∃ a1 a2 a3 a4 a5 a6 a7, ds = [a1, a2, a3, a4, a5, a6, a7] ∧ f a1 a2 a3 a4 a5 a6 a7 P X := by
  unfold vl7 at h
  split at h
  · exact ⟨_, _, _, _, _, _, _, rfl, h⟩
  · exact h.elim
theorem vl7_len {α : Type} {f : PyData → PyData → PyData → PyData → PyData → PyData → PyData → (α → Prop) → XP → Prop} (ds : List PyData) (P : α → Prop) (X : XP) (h : vl7 f ds P X) : ds.length = 7 := by
  obtain ⟨_, _, _, _, _, _, _, rfl, _⟩ := vl7_inv h
  rfl

/-! ### own lists handed to a call for its time -/
mutual
def noList : PyData → Bool
  | .list _ => false
  | .tuple xs => noLists xs
  | .dict _ => false
  | _ => true
def noLists : List PyData → Bool
  | [] => true
  | x :: xs => noList x && noLists xs
end
def noLW (d : PyData) (k : DP) : Prop := noList d = true ∧ k d
variable {A : Str → Addr} {C : Pc} {E : L2.St → XK} {Γ Γ' : List Sl} {K : PySem.W.Frag} {w : World}
def AwO (A : Str → Addr) (C : Pc) (E : L2.St → XK) (ta : TA) (Γ : List Sl) (m : WL) : Prop :=
  ∀ P X, m P X → ∀ (B F H : Hp) (σ : L2.St), Wd C F H → Gm C B F H σ Γ → ∀ Q : List V → Hp → Prop,
    (∀ vs F' H' Fo ds, Grow C.S F H F' H' → Wd C F' H' → Sub F' Fo → Wd C Fo H' → (∀ a o, Fo a = some o → F' a = some o ∨ ∃ us, o = .lst us) → P ds → RpAll Fo vs ds → Q vs H') → XOk A C F H (E σ) X → ta σ H Q
mutual
theorem Rp.less {F G : Hp} (h : ∀ a xs, F a = some (.tup xs) → G a = some (.tup xs)) : ∀ {v : V} {d : PyData}, noList d = true → Rp F v d → Rp G v d
  | _, _, _, .non => .non
  | _, _, _, .bl b => .bl b
  | _, _, _, .int i => .int i
  | _, _, _, .str x => .str x
  | _, _, n, .lst f a => by cases n
  | _, _, n, .tup f a => .tup (h _ _ f) (RpAll.less h n a)
  | _, _, n, .dct f => by cases n
theorem RpAll.less {F G : Hp} (h : ∀ a xs, F a = some (.tup xs) → G a = some (.tup xs)) : ∀ {vs : List V} {ds : List PyData}, noLists ds = true → RpAll F vs ds → RpAll G vs ds
  | _, _, _, .nil => .nil
  | _, _, n, .cons r a => by
    have n' : (noList _ && noLists _) = true := n
    rw [Bool.and_eq_true] at n'
    exact .cons (Rp.less h n'.1 r) (RpAll.less h n'.2 a)
end
section
variable {te : TE} {ts : TA} {m ma : WD} {l : WL} {ds : List PyData} {i : Nat} {Wf : List PyData → WD} {e : XK} {Fm : Pc → Prop}
theorem awo_nil : AwO A C E tNil Γ (fun P _ => P []) := fun P X hm B F H σ wd g Q q _ => q [] F H F [] (.refl wd.sub) wd (.refl _) wd (fun _ _ h => .inl h) hm .nil
theorem awo_cons (ha : Ew A C E te Γ ma) (hb : AwO A C E ts Γ l) : AwO A C E (tCons te ts) Γ (fun P X => ma (fun x => l (fun xs => P (x :: xs)) X) X) :=
  fun P X hm B F H σ wd g Q q xo => ha _ X hm B F H σ wd g _ (fun v F1 H1 x g1 w1 h1 r1 => hb _ X h1 B F1 H1 σ w1 (g.grow g1) _ (fun vs F2 H2 Fo xs g2 w2 s1 wo ex h2 r2 =>
    q _ F2 H2 Fo _ (g1.trans g2) w2 s1 wo ex h2 (.cons ((r1.mono g2.ff).mono s1) r2)) (xo.go g1)) xo
theorem awo_own (hi : Γ[i]? = some (.own ds)) (hb : AwO A C E ts Γ l) : AwO A C E (tCons (tVar i) ts) Γ (fun P X => l (fun xs => P (.list ds :: xs)) X) :=
  fun P X hm B F H σ wd g Q q xo => by
    obtain ⟨p, us, e1, hl, hf, hb', hs, r⟩ := g.ok i _ hi
    refine ⟨_, e1, hb _ X hm B F H σ wd g _ (fun vs F2 H2 Fo xs g2 w2 s1 wo ex h2 r2 => ?_) xo⟩
    have hl2 := g2.hh _ _ hs hl
    have hf2 := g2.nw p (by rw [hl]; exact fun z => nomatch z) hf
    have r3 := r.mono g2.ff
    by_cases hp : Fo p = none
    · refine q _ F2 H2 (upd Fo p (.lst us)) _ g2 w2 (s1.trans (Sub.new hp)) (wo.freeze hs hl2 hp) (fun a o ea => ?_) h2 (.cons (.lst upd_same ((r3.mono s1).mono (Sub.new hp))) (r2.mono (Sub.new hp)))
      by_cases z : a = p
      · subst z; rw [upd_same] at ea; cases ea; exact .inr ⟨_, rfl⟩
      · rw [upd_ne z] at ea; exact ex a o ea
    · cases hq : Fo p with
      | none => exact absurd hq hp
      | some o =>
        have e3 := wo.sub _ _ hq
        rw [hl2] at e3; cases e3
        exact q _ F2 H2 Fo _ g2 w2 s1 wo ex h2 (.cons (.lst hq (r3.mono s1)) r2)
theorem less_grow {S : List Addr} {F' Fo F2 H' H2 : Hp} (s1 : Sub F' Fo) (sw : Sub F' H') (g : Grow S Fo H' F2 H2) : ∃ F3, Grow S F' H' F3 H2 ∧ (∀ a xs, (∀ a o, Fo a = some o → F' a = some o ∨ ∃ us, o = HO.lst us) → F2 a = some (.tup xs) → F3 a = some (.tup xs)) ∧ (∀ a, F2 a = none → F3 a = none) := by
  classical
  refine ⟨fun a => if F' a = none ∧ Fo a ≠ none then none else F2 a, ⟨fun a o e => ?_, fun a o e => ?_, g.hh, g.th, fun a h n => ?_⟩, fun a xs ex e => ?_, fun a e => ?_⟩
  · have : ¬ (F' a = none ∧ Fo a ≠ none) := fun z => by rw [z.1] at e; cases e
    simp only [if_neg this]
    exact g.ff _ _ (s1 _ _ e)
  · have e' : (if F' a = none ∧ Fo a ≠ none then none else F2 a) = some o := e
    split at e'
    · cases e'
    · exact g.fh _ _ e'
  · show (if F' a = none ∧ Fo a ≠ none then none else F2 a) = none
    split
    · rfl
    · rename_i z
      cases q : Fo a with
      | none => exact g.nw a h q
      | some o => exact absurd ⟨n, by rw [q]; exact fun z => nomatch z⟩ z
  · have : ¬ (F' a = none ∧ Fo a ≠ none) := fun z => by
      cases q : Fo a with
      | none => exact z.2 q
      | some o =>
        rcases ex a o q with h | ⟨us, rfl⟩
        · rw [z.1] at h; cases h
        · have := g.ff _ _ q
          rw [e] at this; cases this
    simp only [if_neg this]
    exact e
  · show (if F' a = none ∧ Fo a ≠ none then none else F2 a) = none
    split
    · rfl
    · exact e
theorem ew_callO (h : AwO A C (fun _ => e) ts Γ l) : Ew A C (fun _ => e) (tCall (spF A Wf) [] e ts) Γ (fun P X => l (fun ds => Wf ds (fun d => noLW d P) X) X) := fun P X hm B F H σ wd g Q q xo =>
  h _ X hm B F H σ wd g _ (fun vs F1 H1 Fo ds g1 w1 s1 wo ex h1 r1 => by
    refine ⟨Fo, ds, _, X, wo.sub, by rw [List.append_nil]; exact r1, h1, fun d v F2 H2 pd g2 r2 => ?_, fun n f cv dd F2 H2 g2 _ hx hc => ?_⟩
    · obtain ⟨F3, g3, ht, _⟩ := less_grow s1 w1.sub g2
      exact q v F3 H2 d (g1.trans g3.weak) (w1.grow g3) pd.2 (r2.less (fun a xs => ht a xs ex) pd.1)
    · obtain ⟨F3, g3, ht, _⟩ := less_grow s1 w1.sub g2
      exact xo n f cv dd F3 H2 (g1.trans (g3 : Grow [] F1 H1 F3 H2).weak) (w1.grow g3) hx hc) xo
theorem ew_callPO (hF : Fm C) (hp : Γ[i]? = some .pool) (h : AwO A C (fun _ => e) ts Γ l) : Ew A C (fun _ => e) (tCall (spP A Fm Wf) [] e (tCons (tVar i) ts)) Γ (fun P X => l (fun ds => Wf ds (fun d => noLW d P) X) X) := fun P X hm B F H σ wd g Q q xo =>
  ⟨_, g.ok i _ hp, h _ X hm B F H σ wd g _ (fun vs F1 H1 Fo ds g1 w1 s1 wo ex h1 r1 => by
    have wd3 : ∀ {F2 F3 H2 : Hp}, Wd C F2 H2 → Grow C.S F1 H1 F3 H2 → (∀ a, F2 a = none → F3 a = none) → Wd C F3 H2 := fun w2 g3 hn => ⟨g3.fh, w2.pi, fun a ha => hn a (w2.sF a ha), w2.sH⟩
    refine ⟨C, Fo, vs, ds, _, X, hF, by rw [List.append_nil], wo, r1, h1, fun d v F2 H2 pd g2 w2 r2 => ?_, fun n f cv dd F2 H2 g2 w2 hx hc => ?_⟩
    · obtain ⟨F3, g3, ht, hn⟩ := less_grow s1 w1.sub g2
      exact q v F3 H2 d (g1.trans g3) (wd3 w2 g3 hn) pd.2 (r2.less (fun a xs => ht a xs ex) pd.1)
    · obtain ⟨F3, g3, ht, hn⟩ := less_grow s1 w1.sub g2
      exact xo n f cv dd F3 H2 (g1.trans g3) (wd3 w2 g3 hn) hx hc) xo⟩
end
end Eh

namespace Eh
open PySem PySem.Spec PyProof.Rows L2
variable {A : Str → Addr} {C : Pc} {E : L2.St → XK} {Γ Γ' : List Sl} {K : PySem.W.Frag} {w : World}
/-! ### sorted(ints), l.index(x) -/
def rSortedA (K : PySem.W.Frag) : List V → Hp → VK → Prop := rSortedI K
theorem cSorted {X : Cx} : CallR X (.builtin "sorted") (rSortedA X.K) := cr_sortedI
def sortW (xs : List PyData) (k : List PyData → Prop) : Prop := ∃ ns : List Int, xs = ns.map .int ∧ ∀ ms : List Int, ms.Perm ns → ms.Pairwise (· ≤ ·) → k (ms.map .int)
def idxW (xs : List PyData) (d : PyData) (k : DP) : Prop := SeqAt.shaped (.list xs) = true ∧ SeqAt.shaped d = true ∧ ∃ j z, xs[j]? = some z ∧ PyData.eqv z d = true ∧ (∀ m z', m < j → xs[m]? = some z' → PyData.eqv z' d = false) ∧ k (.int (j : Nat))
section
variable {te ta tb tc : TE} {tt tu : TT} {ts : TA} {m ma mb mc : WD} {l la lb : WL} {mt mu : WT} {d : PyData} {ds : List PyData} {i : Nat}
theorem nw_sorted (h : Lw A C E ta Γ l) : Nw A C E (tCB (rSortedA K) (tCons ta tNil)) Γ (fun P X => l (fun xs => sortW xs P) X) :=
  fun P X hm B F H σ wd g Q q xo => h _ X hm B F H σ wd g _ (fun v F1 H1 xs g1 w1 ⟨ns, e1, hk⟩ ⟨p, vs, e, n, hl, ra⟩ => by
    subst e e1
    refine ⟨p, ns, rfl, SqL.of (by rw [hl, ra.ints]), fun ns' b hp hs hb => ?_⟩
    exact q _ F1 _ _ (g1.trans (.newM g1.fh hb)) (newM_wd w1 hb) (hk ns' hp hs) ⟨b, _, rfl, g1.fresh hb, g1.fh.none hb, fun z => w1.sH b z hb, upd_same, .of_ints _⟩) xo
theorem ew_index (ha : Lw A C E ta Γ l) (hb : Ew A C E tb Γ mb) : Ew A C E (tBM K "list" (rIndexD K) ta (tCons tb tNil)) Γ (fun P X => l (fun xs => mb (fun d => idxW xs d P) X) X) :=
  fun P X hm B F H σ wd g Q q xo => ha _ X hm B F H σ wd g _ (fun v F1 H1 xs g1 w1 h1 ⟨p, vs, e, n, hl, ra⟩ => by
    subst e
    refine ⟨.inl ⟨rfl, vs, SqL.of hl⟩, hb _ X h1 B F1 H1 σ w1 (g.grow g1) _ (fun u F2 H2 d g2 w2 h2 r2 => ?_) (xo.go g1)⟩
    obtain ⟨s1, s2, j, z, hz, he, hno, hk⟩ := h2
    exact ⟨p, u, d, xs, j, z, rfl, rfl, (.lst (SqL.of (g2.hh _ _ n hl)) (RpAll.dp s1 ((ra.mono g2.ff).mono g2.fh))), (r2.mono g2.fh).dp s2, s1, s2, hz, he, hno, q _ F2 H2 _ (g1.trans g2) w2 hk (.int _)⟩) xo
end
/-! ### try, except J as e -/
def subX (n m : Str) : Bool := n == m || m == "JointError"
structure XF (A : Str → Addr) (K : PySem.W.Frag) (xn : List Str) : Prop where
  exc : ∀ n ∈ xn, ExcC K (A n)
  kit : ∀ n ∈ xn, ∀ m ∈ xn, PySem.W.kitOne K (.ref (A n)) (.ref (A m)) = some (subX n m)
  ve : ∀ n ∈ xn, PySem.W.kitOne K (.ref (A n)) (.type "ValueError") = some true
  exm : ∀ n ∈ xn, ∀ m ∈ xn, PySem.W.exmOne K (.ref (A n)) (.ref (A m)) = some (subX n m)
def xfAll (A : Str → Addr) (K : PySem.W.Frag) (xn : List Str) : Bool :=
  xn.all fun n => excCB K (A n) && (kitNB K (A n) (.type "ValueError") true && xn.all fun m => kitNB K (A n) (.ref (A m)) (subX n m) && exmNB K (A n) (A m) (subX n m))
theorem xfAll_ok {xn : List Str} (h : xfAll A K xn = true) : XF A K xn := by
  unfold xfAll at h
  rw [List.all_eq_true] at h
  have h' : ∀ n ∈ xn, excCB K (A n) = true ∧ kitNB K (A n) (.type "ValueError") true = true ∧ ∀ m ∈ xn, kitNB K (A n) (.ref (A m)) (subX n m) = true ∧ exmNB K (A n) (A m) (subX n m) = true := fun n hn => by
    have z := h n hn
    rw [Bool.and_eq_true, Bool.and_eq_true, List.all_eq_true] at z
    exact ⟨z.1, z.2.1, fun m hm => by have y := z.2.2 m hm; rwa [Bool.and_eq_true] at y⟩
  exact ⟨fun n hn => excCB_ok (h' n hn).1, fun n hn m hm => of_decide_eq_true ((h' n hn).2.2 m hm).1, fun n hn => of_decide_eq_true (h' n hn).2.1, fun n hn m hm => of_decide_eq_true ((h' n hn).2.2 m hm).2⟩
def catchW (xn : List Str) (n J : Str) (p q : Prop) : Prop := n ∈ xn ∧ J ∈ xn ∧ iteW (subX n J) p q
def isXW (xn : List Str) (n X : Str) (k : DP) : Prop := n ∈ xn ∧ X ∈ xn ∧ k (.bool (subX n X))
def isVW (xn : List Str) (n : Str) (k : DP) : Prop := n ∈ xn ∧ k (.bool true)
section
variable {B F0 : Hp} {D : Ends} {i : Nat} {a : Addr} {n X J : Str} {xn : List Str} {e : XK} {er : XP} {Hf : Str → Prop} {g : XP → Prop} {ts : Addr → Value → Option Addr → TS} {tb : WX → TS}
theorem ew_isX (fx : XF A K xn) (hi : Γ[i]? = some (.ref a)) : Ew A C E (tCB (rIsX K a (.ref (A n)) none) (tCons (tVar i) (tCons (tC (.ref (A X))) tNil))) Γ (fun P _ => isXW xn n X P) :=
  fun P Y ⟨h1, h2, hm⟩ B F H σ wd gm Q q xo => ew_d (A := A) (C := C) (E := E) (ev_isXr hi (fx.exc n h1) (fx.kit n h1 X h2)) P Y hm B F H σ wd gm Q q xo
theorem ew_isV (fx : XF A K xn) (hi : Γ[i]? = some (.ref a)) : Ew A C E (tCB (rIsX K a (.ref (A n)) none) (tCons (tVar i) (tCons (tC (.ty "ValueError")) tNil))) Γ (fun P _ => isVW xn n P) :=
  fun P Y ⟨h1, hm⟩ B F H σ wd gm Q q xo => ew_d (A := A) (C := C) (E := E) (ev_isXt hi (fx.exc n h1) (fx.ve n h1)) P Y hm B F H σ wd gm Q q xo
theorem aw_try (fx : XF A K xn) (hx : RaiseW A C B F0 e er) (h : joinW g (fun n f => catchW xn n J (f = none ∧ Hf n) (er n f)))
    (hb : ∀ xr W, RaiseT A C B F0 Γ (WE W) xr → g xr → At C B F0 Γ (tb W D))
    (hs : ∀ n a D', D'.rt = D.rt → Hf n → At C B F0 (Γ.set i (.ref a)) (ts a (.ref (A n)) none D')) :
    At C B F0 Γ (tTryAs K (.ref (A J)) i ts (fun cls d _ H => e cls d H) tb D) := by
  refine hb _ (wAs K (.ref (A J)) i ts (fun cls d _ H => e cls d H) D) (fun F H σ cv dd n f w gr gm hxx hc => ?_) h
  obtain ⟨h1, h2, h3⟩ := hxx
  have hm := fx.exm n h1 J h2
  cases hsub : subX n J with
  | true =>
    rw [hsub] at h3 hm
    obtain ⟨rfl, hH⟩ : f = none ∧ Hf n := h3
    obtain ⟨rfl, hd⟩ := hc
    have hd' : dd = none := hd
    subst hd'
    exact ⟨true, hm, fun _ a ha => hs n a { nx := fun σ' H' => D.nx (σ'.set i none) H', rt := D.rt, bk := fun σ' H' => D.bk (σ'.set i none) H', ct := fun σ' H' => D.ct (σ'.set i none) H' } rfl hH F H _ w gr (gm.set (s := .ref a) rfl fun _ z => nomatch z), fun z => nomatch z⟩
  | false =>
    rw [hsub] at h3 hm
    have h3' : er n f := h3
    have e1 : cv = .ref (A n) := hc.1
    refine ⟨false, by rw [e1]; exact hm, (fun z => nomatch z), fun _ => ?_⟩
    exact hx F H cv dd n f w gr h3' hc
end
end Eh

namespace Eh
open PySem PySem.Spec PyProof.Rows L2
/-! ### a comprehension with two clauses -/
abbrev In2 := List PyData → (PyData → DP → Prop → Prop) → Prop
def lc2Go (body : PyData → In2 → Prop → Prop) : List PyData → (List PyData → Prop) → Prop
  | [], k => k []
  | x :: xs, k => body x (fun ys b2 => ys.length ≤ 1000 ∧ lcGo b2 ys fun l => lc2Go body xs fun l' => k (l ++ l')) (lc2Go body xs k)
def lc2W (items : List PyData) (body : PyData → In2 → Prop → Prop) (k : List PyData → Prop) : Prop := items.length ≤ 100 ∧ lc2Go body items k
variable {A : Str → Addr} {C : Pc} {E : L2.St → XK} {Γ Γ' : List Sl} {K : PySem.W.Frag} {w : World}
/-- slots that the heap does not matter for -/
def litS : Sl → Bool | .own _ => false | .fz _ _ _ => false | .dct _ => false | _ => true
def litB : List Sl → Bool | [] => true | s :: r => litS s && litB r
theorem lit_ok : ∀ {Γ : List Sl}, litB Γ = true → ∀ s ∈ Γ, litS s = true
  | [], _, s, hs => absurd hs List.not_mem_nil
  | t :: Γ, h, s, hs => by
    have h' : (litS t && litB Γ) = true := h
    rw [Bool.and_eq_true] at h'
    rcases List.mem_cons.mp hs with rfl | hs
    · exact h'.1
    · exact lit_ok h'.2 s hs
theorem Gm.lit {B F H H' : Hp} {σ : L2.St} (e : Gm C B F H σ Γ) (h : litB Γ = true) : Gm C B F H' σ Γ :=
  ⟨e.len, fun i s es => by
    have k := e.ok i s es
    have l := lit_ok h s (List.mem_of_getElem? es)
    cases s with
    | no => trivial
    | dat d => exact k
    | own ds => cases l
    | dct kvs => cases l
    | pool => exact k
    | fz K a xs => cases l
    | ref a => exact k, e.inj⟩
section
variable {te : TE} {tt tt1 : TT} {l : WL}
theorem nw_lc2 {wi wi1 : TI} {g g1 : TG} {vs vs1 : List Nat} {body : PyData → In2 → Prop → Prop} (hi : Iw A C E wi Γ l)
    (hb : ∀ x Y N, body x Y N → ∃ Γx Γi mt m1 b2, TgD g vs (wipeG Γ vs) x Γx ∧ Tw A C (fun _ => E0) tt Γx mt ∧ Fw A C (fun _ => E0) wi1 Γx m1 ∧ mt (fun b => iteW b (m1 (fun ys => Y ys b2) noX) N) noX ∧ Wk Γx Γi ∧ litB Γi = true ∧
      ∀ y Y1 N1, b2 y Y1 N1 → ∃ Γy mt1 me, TgD g1 vs1 (wipeG Γi vs1) y Γy ∧ Tw A C (fun _ => E0) tt1 Γy mt1 ∧ Ew A C (fun _ => E0) te Γy me ∧ mt1 (fun b => iteW b (me Y1 noX) N1) noX) :
    Nw A C E (tLc2 wi g tt wi1 g1 tt1 te vs vs1) Γ (fun P X => l (fun items => lc2W items body P) X) := fun P X hm B F H σ wd gm Q q xo =>
  hi _ X hm B F H σ wd gm _ (fun J F1 H1 xs g1' w1 hP wk D hD => by
    obtain ⟨hz, hgo⟩ := hP
    have e1 := gm.grow g1'
    have nS : D ∉ C.S := fun z => w1.sH D z hD
    have nox : ∀ F H, XOk A C F H E0 noX := fun _ _ _ _ _ _ _ _ _ _ z => z.elim
    have mv : ∀ {F' H' : Hp} {acc : List V}, Grow C.S F1 H1 F' H' → F' D = none → H1 D = none → Grow C.S F1 H1 F' (upd H' D (.lst acc)) := fun {F' H' acc} gg f3 hD =>
      ⟨gg.ff, fun a o e => by
        have z : a ≠ D := fun z => by subst z; rw [f3] at e; cases e
        rw [upd_ne z]; exact gg.fh a o e, fun a o n e => by
        have z : a ≠ D := fun z => by subst z; rw [hD] at e; cases e
        rw [upd_ne z]; exact gg.hh a o n e, fun a e => upd_th (gg.th a e), gg.nw⟩
    let St1 : Hp → List PyData → Prop := fun H' ds => ∃ F' acc, Grow C.S F1 H1 F' H' ∧ Wd C F' H' ∧ F' D = none ∧ H' D = some (.lst acc) ∧ RpAll F' acc ds
    refine ⟨fun i m H' => i + m = xs.length ∧ ∃ ds, St1 H' ds ∧ ds.length ≤ i * 1000 ∧ lc2Go body (xs.drop i) fun l => P (ds ++ l),
      ⟨xs.length, by omega, [], ⟨F1, [], .newM g1'.fh hD, w1.grow (.newM g1'.fh hD), g1'.fh.none hD, upd_same, .nil⟩, Nat.zero_le _, hgo⟩, fun i m H' ⟨hm, ds, ⟨F', acc, g2, w2, hF, hH, ra⟩, hle, gen⟩ => ?_⟩
    by_cases hlt : i < xs.length
    · refine .inr ?_
      obtain ⟨x, hx⟩ : ∃ x, xs[i]? = some x := ⟨_, List.getElem?_eq_getElem hlt⟩
      have hdr : xs.drop i = x :: xs.drop (i + 1) := by
        rw [← (List.getElem?_eq_some_iff.mp hx).2, List.getElem_cons_drop]
      rw [hdr] at gen
      obtain ⟨Γx, Γi, mt, m1, b2, hg, ht, hi1, hmt, hwk, hlit, hin⟩ := hb x _ _ gen
      obtain ⟨go, yl⟩ := (wk F' H' g2).1 i x hx
      refine ⟨go, fun H'' => ∃ ds, St1 H'' ds ∧ ds.length ≤ (i + 1) * 1000 ∧ lc2Go body (xs.drop (i + 1)) fun l => P (ds ++ l), fun H'' h'' => ⟨m - 1, by omega, by omega, h''⟩, fun v H'' y => ?_⟩
      obtain ⟨F'', g3, rv⟩ := yl v H'' y
      have g23 := g2.trans g3.weak
      have dF : F'' D = none := g3.nw D (by rw [hH]; exact fun z => nomatch z) hF
      refine hg C B F'' H'' (L2.wipe σ vs) v g3.fh ((e1.grow g23).wipe vs) rv _ fun σ' e2 hw => ⟨hw.trans (wipe_wipe σ vs), ?_⟩
      refine ht _ noX hmt B F'' H'' σ' (w2.grow g3) e2 _ (fun b F3 H3 g4 w4 pb => ?_) (nox _ _)
      have d3 : H3 D = some (.lst acc) := g4.hh _ _ nS (g3.sub _ _ hH)
      have f3 : F3 D = none := g4.nw D (by rw [g3.sub _ _ hH]; exact fun z => nomatch z) dF
      have ra3 := (ra.mono g3.ff).mono g4.ff
      have g34 := g23.trans g4
      cases b with
      | false =>
        rw [if_neg Bool.false_ne_true]
        exact ⟨ds, ⟨F3, acc, g34, w4, f3, d3, ra3⟩, by omega, pb⟩
      | true =>
        rw [if_pos rfl]
        have e4 := e2.grow g4
        refine hi1 _ noX pb B F3 H3 σ' w4 e4 _ (fun J1 F5 H5 ys g5 w5 hY wk1 => ?_) (nox _ _)
        obtain ⟨hy1000, hgo1⟩ := hY
        have d5 : H5 D = some (.lst acc) := g5.hh _ _ nS d3
        have f5 : F5 D = none := g5.nw D (by rw [d3]; exact fun z => nomatch z) f3
        have g35 := g34.trans g5
        refine ⟨fun j k H6 => j + k = ys.length ∧ ∃ F6 acc6 es, Grow C.S F1 H1 F6 H6 ∧ Wd C F6 H6 ∧ Sub F5 F6 ∧ F6 D = none ∧ H6 D = some (.lst acc6) ∧ RpAll F6 acc6 (ds ++ es) ∧ es.length ≤ j ∧ Gm C B F6 H6 σ' Γi ∧
            lcGo b2 (ys.drop j) fun l => lc2Go body (xs.drop (i + 1)) fun l' => P (ds ++ (es ++ l ++ l')),
          ⟨ys.length, by omega, F5, acc, [], g35, w5, .refl F5, f5, d5, by rw [List.append_nil]; exact ra3.mono g5.ff, Nat.le_refl _, (e4.grow g5).wk hwk, hgo1⟩, fun j k H6 ⟨hjk, F6, acc6, es, g6, w6, s6, f6, d6, ra6, hle6, e6, gen6⟩ => ?_⟩
        by_cases hjl : j < ys.length
        · refine .inr ?_
          obtain ⟨y, hy⟩ : ∃ y, ys[j]? = some y := ⟨_, List.getElem?_eq_getElem hjl⟩
          have hdr6 : ys.drop j = y :: ys.drop (j + 1) := by
            rw [← (List.getElem?_eq_some_iff.mp hy).2, List.getElem_cons_drop]
          rw [hdr6] at gen6
          obtain ⟨Γy, mt1, me, hg1, ht1, he1, hmt1⟩ := hin y _ _ gen6
          obtain ⟨go6, yl6⟩ := (wk1 F6 H6 s6 w6.sub).1 j y hy
          refine ⟨go6, fun H8 => ∃ F8 acc8 es8, Grow C.S F1 H1 F8 H8 ∧ Wd C F8 H8 ∧ Sub F5 F8 ∧ F8 D = none ∧ H8 D = some (.lst acc8) ∧ RpAll F8 acc8 (ds ++ es8) ∧ es8.length ≤ j + 1 ∧ Gm C B F8 H8 σ' Γi ∧
            lcGo b2 (ys.drop (j + 1)) fun l => lc2Go body (xs.drop (i + 1)) fun l' => P (ds ++ (es8 ++ l ++ l')), fun H8 h8 => ⟨k - 1, by omega, by omega, h8⟩, fun v6 H8 y8 => ?_⟩
          obtain ⟨F8, g8, rv8⟩ := yl6 v6 H8 y8
          have g68 := g6.trans g8.weak
          have d8 : H8 D = some (.lst acc6) := g8.sub _ _ d6
          have f8 : F8 D = none := g8.nw D (by rw [d6]; exact fun z => nomatch z) f6
          refine hg1 C B F8 H8 (L2.wipe σ' vs1) v6 g8.fh ((e6.grow g8.weak).wipe vs1) rv8 _ fun σ3 e8 hw3 => ⟨hw3.trans (wipe_wipe σ' vs1), ?_⟩
          refine ht1 _ noX hmt1 B F8 H8 σ3 (w6.grow g8) e8 _ (fun b1 F9 H9 g9 w9 pb1 => ?_) (nox _ _)
          have d9 : H9 D = some (.lst acc6) := g9.hh _ _ nS d8
          have f9 : F9 D = none := g9.nw D (by rw [d8]; exact fun z => nomatch z) f8
          have e9 := (e6.grow g8.weak).grow g9
          cases b1 with
          | false =>
            rw [if_neg Bool.false_ne_true]
            exact ⟨F9, acc6, es, g68.trans g9, w9, (s6.trans g8.ff).trans g9.ff, f9, d9, (ra6.mono g8.ff).mono g9.ff, Nat.le_succ_of_le hle6, e9, pb1⟩
          | true =>
            rw [if_pos rfl]
            refine he1 _ noX pb1 B F9 H9 σ3 w9 (e8.grow g9) _ (fun u F10 H10 d g10 w10 pd ru => ?_) (nox _ _)
            have d10 : H10 D = some (.lst acc6) := g10.hh _ _ nS d9
            have f10 : F10 D = none := g10.nw D (by rw [d9]; exact fun z => nomatch z) f9
            have ra10 := ((ra6.mono g8.ff).mono g9.ff).mono g10.ff
            have e10 := e9.grow g10
            refine ⟨acc6, d10, ?_, F10, acc6 ++ [u], es ++ [d], mv ((g68.trans g9).trans g10) f10 hD, w10.mut nS f10, ((s6.trans g8.ff).trans g9.ff).trans g10.ff, f10, upd_same, ?_, by rw [List.length_append]; exact Nat.succ_le_succ hle6, ?_, ?_⟩
            · rw [ra10.length, List.length_append]
              have h1 : ds.length + es.length ≤ i * 1000 + j := Nat.add_le_add hle hle6
              have h2 : i * 1000 + j < 100 * 1000 := by omega
              exact Nat.lt_of_lt_of_le (Nat.lt_of_le_of_lt h1 h2) (by decide)
            · rw [← List.append_assoc]; exact ra10.append (.one ru)
            · exact e10.lit hlit
            · have e : (fun l => lc2Go body (xs.drop (i + 1)) fun l' => P (ds ++ (es ++ [d] ++ l ++ l'))) = fun l => lc2Go body (xs.drop (i + 1)) fun l' => P (ds ++ (es ++ (d :: l) ++ l')) := funext fun l => by
                congr 1; funext l'; rw [List.append_assoc es [d] l]; rfl
              rw [e]; exact pd
        · refine .inl ?_
          have ej : j = ys.length := by omega
          subst ej
          refine ⟨(wk1 F6 H6 s6 w6.sub).2, ds ++ es, ⟨F6, acc6, g6, w6, f6, d6, ra6⟩, by rw [List.length_append]; omega, ?_⟩
          rw [List.drop_length] at gen6
          have gen7 : lc2Go body (xs.drop (i + 1)) fun l' => P (ds ++ (es ++ [] ++ l')) := gen6
          have e : (fun l' => P (ds ++ (es ++ [] ++ l'))) = fun l' => P (ds ++ es ++ l') := funext fun l' => by rw [List.append_nil, List.append_assoc]
          rw [e] at gen7; exact gen7
    · refine .inl ?_
      have ei : i = xs.length := by omega
      subst ei
      refine ⟨(wk F' H' g2).2, ?_⟩
      rw [List.drop_length] at gen
      have gen2 : P (ds ++ []) := gen
      rw [List.append_nil] at gen2
      exact q _ F' H' _ (g1'.trans g2) w2 gen2 ⟨D, acc, rfl, g1'.fresh' hD, hF, nS, hH, ra⟩) xo
end
section
variable {te ta tb : TE} {ts : TA} {m ma mb : WD} {l : WL} {i : Nat} {Wn : List PyData → WL} {e : XK} {Fm : Pc → Prop}
def rgL2W (x y : PyData) (k : List PyData → Prop) : Prop := match x, y with | .int i, .int j => 0 ≤ i ∧ i ≤ 100000 ∧ 0 ≤ j ∧ j ≤ 100000 ∧ k (rgIJ i j) | _, _ => False
theorem ew_tupRg2 (ha : Ew A C E ta Γ ma) (hb : Ew A C E tb Γ mb) : Ew A C E (tTupRg (tRg2 ta tb)) Γ (fun P X => ma (fun x => mb (fun y => rgL2W x y fun xs => tupW xs P) X) X) := fun P X hm B F H σ wd g Q q xo =>
  ha _ X hm B F H σ wd g _ (fun v F1 H1 x g1 w1 h1 r1 => hb _ X h1 B F1 H1 σ w1 (g.grow g1) _ (fun u F2 H2 y g2 w2 h2 r2 => by
    unfold rgL2W at h2
    split at h2
    · rename_i i j
      obtain ⟨k1, k2, k3, k4, k5⟩ := h2
      refine ⟨i, j, Rp.int_inv r1, Rp.int_inv r2, RgOk.of_le (by omega) (by omega) (by omega) (by omega), fun p hp => ?_⟩
      have gn : Grow [] F2 H2 (upd F2 p (.tup (rgV i j))) (upd H2 p (.tup (rgV i j))) := .new g2.fh hp
      exact q _ _ _ _ ((g1.trans g2).trans gn.weak) (w2.grow gn) k5 (.tup upd_same (rpRg _ i j))
    · exact h2.elim) (xo.go g1)) xo
theorem nw_rg2 (ha : Ew A C E ta Γ ma) (hb : Ew A C E tb Γ mb) : Nw A C E (tLstRg (tRg2 ta tb)) Γ (fun P X => ma (fun x => mb (fun y => rgL2W x y P) X) X) := fun P X hm B F H σ wd g Q q xo =>
  ha _ X hm B F H σ wd g _ (fun v F1 H1 x g1 w1 h1 r1 => hb _ X h1 B F1 H1 σ w1 (g.grow g1) _ (fun u F2 H2 y g2 w2 h2 r2 => by
    unfold rgL2W at h2
    split at h2
    · rename_i i j
      obtain ⟨k1, k2, k3, k4, k5⟩ := h2
      refine ⟨i, j, Rp.int_inv r1, Rp.int_inv r2, RgOk.of_le (by omega) (by omega) (by omega) (by omega), fun p hp => ?_⟩
      exact q _ F2 _ _ ((g1.trans g2).trans (.newM g2.fh hp)) (newM_wd w2 hp) k5 ⟨p, _, rfl, (g1.trans g2).fresh hp, g2.fh.none hp, fun z => w2.sH p z hp, upd_same, rpRg F2 i j⟩
    · exact h2.elim) (xo.go g1)) xo
/-- own lists handed to a def that hands back a new list, with no list in it -/
def noLsW (ds : List PyData) (k : List PyData → Prop) : Prop := noLists ds = true ∧ k ds
theorem nw_callO (h : AwO A C (fun _ => e) ts Γ l) : Nw A C (fun _ => e) (tCall (spFN A Wn) [] e ts) Γ (fun P X => l (fun ds => Wn ds (fun d => noLsW d P) X) X) := fun P X hm B F H σ wd g Q q xo =>
  h _ X hm B F H σ wd g _ (fun vs F1 H1 Fo ds g1 w1 s1 wo ex h1 r1 => by
    refine ⟨Fo, ds, _, X, wo.sub, by rw [List.append_nil]; exact r1, h1, fun es p us F2 H2 pd g2 hn hf hl r2 => ?_, fun n f cv dd F2 H2 g2 _ hx hc => ?_⟩
    · obtain ⟨F3, g3, ht, hnn⟩ := less_grow s1 w1.sub g2
      exact q _ F3 H2 es (g1.trans g3.weak) (w1.grow g3) pd.2 ⟨p, us, rfl, g1.fresh hn, hnn p hf, fun z => w1.sH p z hn, hl, r2.less (fun a xs => ht a xs ex) pd.1⟩
    · obtain ⟨F3, g3, ht, _⟩ := less_grow s1 w1.sub g2
      exact xo n f cv dd F3 H2 (g1.trans (g3 : Grow [] F1 H1 F3 H2).weak) (w1.grow g3) hx hc) xo
theorem nw_callPO (hF : Fm C) (hp : Γ[i]? = some .pool) (h : AwO A C (fun _ => e) ts Γ l) : Nw A C (fun _ => e) (tCall (spPN A Fm Wn) [] e (tCons (tVar i) ts)) Γ (fun P X => l (fun ds => Wn ds (fun d => noLsW d P) X) X) := fun P X hm B F H σ wd g Q q xo =>
  ⟨_, g.ok i _ hp, h _ X hm B F H σ wd g _ (fun vs F1 H1 Fo ds g1 w1 s1 wo ex h1 r1 => by
    have wd3 : ∀ {F2 F3 H2 : Hp}, Wd C F2 H2 → Grow C.S F1 H1 F3 H2 → (∀ a, F2 a = none → F3 a = none) → Wd C F3 H2 := fun w2 g3 hn => ⟨g3.fh, w2.pi, fun a ha => hn a (w2.sF a ha), w2.sH⟩
    refine ⟨C, Fo, vs, ds, _, X, hF, by rw [List.append_nil], wo, r1, h1, fun es p us F2 H2 pd g2 w2 hn hf hs hl r2 => ?_, fun n f cv dd F2 H2 g2 w2 hx hc => ?_⟩
    · obtain ⟨F3, g3, ht, hnn⟩ := less_grow s1 w1.sub g2
      exact q _ F3 H2 es (g1.trans g3) (wd3 w2 g3 hnn) pd.2 ⟨p, us, rfl, g1.fresh hn, hnn p hf, hs, hl, r2.less (fun a xs => ht a xs ex) pd.1⟩
    · obtain ⟨F3, g3, ht, hn⟩ := less_grow s1 w1.sub g2
      exact xo n f cv dd F3 H2 (g1.trans g3) (wd3 w2 g3 hn) hx hc) xo⟩
/-- an expression read with an own list standing for a while -/
theorem ew_sh (i : Nat) (hi : Γ[i]? = some (.own ds)) (ha : Ew A C E te (Γ.set i (.dat (.list ds))) m) : Ew A C E te Γ (fun P X => m (fun d => noLW d P) X) := fun P X hm B F H σ wd e Q q xo => by
  obtain ⟨p, vs, e1, hl, hf, hb, hs, r⟩ := e.ok i _ hi
  have il : i < Γ.length := (List.getElem?_eq_some_iff.mp hi).1
  have sF : Sub F (upd F p (.lst vs)) := Sub.new hf
  have exo : ∀ a o, upd F p (.lst vs) a = some o → F a = some o ∨ ∃ us, o = .lst us := fun a o ea => by
    by_cases z : a = p
    · subst z; rw [upd_same] at ea; cases ea; exact .inr ⟨_, rfl⟩
    · rw [upd_ne z] at ea; exact .inl ea
  have e' : Gm C B (upd F p (.lst vs)) H σ (Γ.set i (.dat (.list ds))) := ⟨by rw [List.length_set, e.len], fun j t ej => by
    rw [List.getElem?_set] at ej
    by_cases hj : i = j
    · subst hj
      rw [if_pos rfl, if_pos il] at ej
      cases ej
      exact ⟨_, e1, .lst upd_same (r.mono sF)⟩
    · rw [if_neg hj] at ej
      have k1 := e.ok j t ej
      cases t with
      | no => trivial
      | dat d => obtain ⟨v, a1, a2⟩ := k1; exact ⟨v, a1, a2.mono sF⟩
      | own fs =>
        obtain ⟨q, us, a1, a2, a3, a4, a5, a6⟩ := k1
        have nq : q ≠ p := fun z => hj (e.inj i j ds fs p hi ej e1 (z ▸ a1))
        exact ⟨q, us, a1, a2, by rw [upd_ne nq]; exact a3, a4, a5, a6.mono sF⟩
      | dct kvs =>
        obtain ⟨q, a1, a2, a3, a4, a5⟩ := k1
        have nq : q ≠ p := fun z => by
          subst z
          have z2 := a2.symm.trans hl
          cases z2
        exact ⟨q, a1, a2, by rw [upd_ne nq]; exact a3, a4, a5⟩
      | pool => exact k1
      | fz K a xs => exact k1
      | ref a => exact k1, fun j m ds' es' q e2 e3 e4 e5 => by
    have ne : ∀ (m : Nat) (xs : List PyData), (Γ.set i (.dat (.list ds)))[m]? = some (Sl.own xs) → Γ[m]? = some (Sl.own xs) := fun m xs z => by
      rw [List.getElem?_set] at z
      by_cases hm : i = m
      · subst hm; rw [if_pos rfl, if_pos il] at z; cases z
      · rw [if_neg hm] at z; exact z
    exact e.inj j m ds' es' q (ne j ds' e2) (ne m es' e3) e4 e5⟩
  refine ha _ X hm B _ H σ (wd.freeze hs hl hf) e' _ (fun v F2 H2 d g2 w2 pd r2 => ?_) (fun n f cv dd F2 H2 g2 w2 hx hc => ?_)
  · obtain ⟨F3, g3, ht, hn⟩ := less_grow sF wd.sub g2
    exact q v F3 H2 d g3 ⟨g3.fh, w2.pi, fun a ha => hn a (w2.sF a ha), w2.sH⟩ pd.2 (r2.less (fun a xs => ht a xs exo) pd.1)
  · obtain ⟨F3, g3, ht, hn⟩ := less_grow sF wd.sub g2
    exact xo n f cv dd F3 H2 g3 ⟨g3.fh, w2.pi, fun a ha => hn a (w2.sF a ha), w2.sH⟩ hx hc
end
end Eh

/-! zip of two rows of things, each a list or a tuple: by two flags (true: a tuple) -/
namespace Eh
open PySem PySem.Spec PyProof.Rows L2 RZ
def ItB (t : Bool) (h : Heap) (i l : Addr) (k : Nat) : Prop := match t with | true => h.IsTupleIter i l k | false => h.IsListIter i l k
def SqV (t : Bool) (h : Heap) (l : Addr) (xs : Array Value) : Prop := match t with | true => h.IsTuple l xs | false => h.IsList l xs
def SqB (t : Bool) (K : PySem.W.Frag) (H : Hp) (a : Addr) (xs : List V) : Prop := match t with | true => SqT K H a xs | false => SqL K H a xs
def itN (t : Bool) : String := match t with | true => "tuple_iterator" | false => "list_iterator"
theorem ItB.extBut {t : Bool} {h h' : Heap} {a b l : Addr} {i : Nat} (x : ItB t h a l i) (hs : Heap.ExtBut b h h') (hab : a ≠ b) : ItB t h' a l i := by
  cases t
  · exact Heap.IsListIter.extBut x hs hab
  · exact Heap.IsTupleIter.extBut x hs hab
theorem ItB.at {t : Bool} {h h' : Heap} {a l : Addr} {i : Nat} (x : ItB t h a l i) (e : ∀ o, h.get? a = some o → h'.get? a = some o) : ItB t h' a l i := by
  cases t
  · exact Heap.IsListIter.at x e
  · exact Heap.IsTupleIter.at x e
theorem ItB.obj {t : Bool} {h : Heap} {a l : Addr} {i : Nat} (x : ItB t h a l i) : ∃ o, h.get? a = some o ∧ ∀ v, o.data ≠ .cell v := by
  cases t
  · obtain ⟨o, e, _, d⟩ := x; exact ⟨o, e, fun v q => by rw [d] at q; cases q⟩
  · obtain ⟨o, e, _, d⟩ := x; exact ⟨o, e, fun v q => by rw [d] at q; cases q⟩
theorem SqV.extBut {t : Bool} {h h' : Heap} {b l : Addr} {xs : Array Value} (x : SqV t h l xs) (hs : Heap.ExtBut b h h') (hab : l ≠ b) : SqV t h' l xs := by
  cases t
  · exact Heap.IsList.extBut x hs hab
  · exact Heap.IsTuple.extBut x hs hab
section
variable {prog : Program} {w : World} {A : Around} {E : Value → Shared → Prop} {s : Shared} {t1 t2 : Bool}
theorem nextOfB_item {t : Bool} {it l : Addr} {i : Nat} {items : Array Value} {x : Value} {Q : Value → Shared → Prop} (hit : ItB t s.heap it l i)
    (hl : SqV t s.heap l items) (hx : items[i]? = some x)
    (hQ : ∀ h', ItB t h' it l (i + 1) → Heap.SameBut it s.heap h' → Q x { s with heap := h' }) :
    wpAny (model prog w) A (Builtin.SmallTypes.nextOf (.ref it)) Q E s := by
  cases t
  · exact wpAny_nextOf_list_item hit hl hx hQ
  · exact nextOf_tuple_item hit hl hx hQ
theorem nextOfB_end {t : Bool} {it l : Addr} {i : Nat} {items : Array Value} {Q : Value → Shared → Prop} (hh : A.handled = none)
    (hit : ItB t s.heap it l i) (hl : SqV t s.heap l items) (hx : items[i]? = none)
    (hE : ∀ h' e, Heap.ExtBut it s.heap h' → (∃ o, h'.get? e = some o ∧ o.cls = .type "StopIteration") → E (.ref e) { s with heap := h' }) :
    wpAny (model prog w) A (Builtin.SmallTypes.nextOf (.ref it)) Q E s := by
  cases t
  · exact wpAny_nextOf_list_end hh hit hl hx hE
  · exact nextOf_tuple_end hh hit hl hx hE
theorem zipB_next_item {z TI TO i1 i2 l1 l2 : Addr} {k1 k2 : Nat} {xs ys : Array Value} {x y a b : Value} {Q : Value → Shared → Prop} (D : ZipApart z TI TO i1 i2 l1 l2)
    (hz : IsZip s.heap z TI TO .none) (hTI : IsPair s.heap TI (.ref i1) (.ref i2)) (hTO : IsPair s.heap TO a b)
    (h1 : ItB t1 s.heap i1 l1 k1) (h2 : ItB t2 s.heap i2 l2 k2) (hl1 : SqV t1 s.heap l1 xs) (hl2 : SqV t2 s.heap l2 ys) (hx : xs[k1]? = some x) (hy : ys[k2]? = some y)
    (hQ : ∀ h', IsZip h' z TI TO (rawInt s.heap.objs.size) → IsPair h' TO x y → ItB t1 h' i1 l1 (k1 + 1) → ItB t2 h' i2 l2 (k2 + 1) → IsPair h' s.heap.objs.size x y → h'.objs.size = s.heap.objs.size + 1 →
      (∀ c o, c ≠ z → c ≠ TO → c ≠ i1 → c ≠ i2 → s.heap.get? c = some o → h'.get? c = some o) → Q (.ref s.heap.objs.size) { s with heap := h' }) :
    wpAny (model prog w) A (Builtin.«zip.__next__» ⟨[.ref z], []⟩) (fun fin s' => ∃ v, fin = .done (.ret v) ∧ Q v s') E s := by
  show wpAny _ _ (field (.ref z) 2 >>= _) _ _ _
  refine wpAny_bind (wpAny_field hz rfl (x := .bool false) rfl ?_)
  show wpAny _ _ (field (.ref z) 3 >>= _) _ _ _
  refine wpAny_bind (wpAny_field hz rfl (x := .ref TI) rfl ?_)
  refine wpAny_bind (wpAny_seqItems hTI rfl ?_)
  show wpAny _ _ (Builtin.SmallTypes.ownedTupleIsFree (.ref z) >>= _) _ _ _
  refine wpAny_bind ?_
  unfold Builtin.SmallTypes.ownedTupleIsFree
  refine wpAny_bind (wpAny_field hz rfl (x := .none) rfl (wpAny_pure ?_))
  simp only [if_true]
  refine wpAny_bind (wpAny_rule ?_)
  refine wpAny_bind (wpAny_field hz rfl (x := .ref TO) rfl ?_)
  refine wpAny_bind (wpAny_setField_rec hz (by simp) fun h₁ hz₁ hs₁ => ?_)
  replace hz₁ : IsZip h₁ z TI TO .ellipsis := hz₁
  refine wpAny_bind ?_
  simp only [List.zipIdx_cons, List.zipIdx_nil, List.forIn_cons, List.forIn_nil]

  refine wpAny_bind (wpAny_bind (wpAny_onRaise ?_))
  show wpAny _ _ (Builtin.SmallTypes.nextOf (.ref i1) >>= _) _ _ _
  refine wpAny_bind (nextOfB_item (h1.extBut hs₁.extBut D.i1z) (hl1.extBut hs₁.extBut D.l1z) hx fun h₂ h1₂ hs₂ => wpAny_pure ?_)
  have hTO₂ : IsPair h₂ TO a b := hs₂.extBut _ _ D.TOi1 (hs₁.extBut _ _ D.TOz hTO)
  refine wpAny_bind (wpAny_seqItems hTO₂ rfl ?_)
  refine wpAny_bind (wpAny_updateSeq_pair hTO₂ fun h₃ hTO₃ hs₃ => ?_)
  replace hTO₃ : IsPair h₃ TO x b := hTO₃
  refine wpAny_bind (wpAny_letGo (wpAny_pure ?_))

  refine wpAny_bind (wpAny_bind (wpAny_onRaise ?_))
  show wpAny _ _ (Builtin.SmallTypes.nextOf (.ref i2) >>= _) _ _ _
  refine wpAny_bind (nextOfB_item (((h2.extBut hs₁.extBut D.i2z).extBut hs₂.extBut D.i12.symm).extBut hs₃.extBut D.TOi2.symm)
    (((hl2.extBut hs₁.extBut D.l2z).extBut hs₂.extBut D.l2i1).extBut hs₃.extBut D.l2TO) hy fun h₄ h2₄ hs₄ => wpAny_pure ?_)
  have hTO₄ : IsPair h₄ TO x b := hs₄.extBut _ _ D.TOi2 hTO₃
  refine wpAny_bind (wpAny_seqItems hTO₄ rfl ?_)
  refine wpAny_bind (wpAny_updateSeq_pair hTO₄ fun h₅ hTO₅ hs₅ => ?_)
  replace hTO₅ : IsPair h₅ TO x y := hTO₅
  refine wpAny_bind (wpAny_letGo (wpAny_pure (wpAny_pure ?_)))

  refine wpAny_bind (wpAny_seqItems hTO₅ rfl ?_)
  refine wpAny_bind (wpAny_newTuple ?_)
  have hsz : h₅.objs.size = s.heap.objs.size := by rw [hs₅.1, hs₄.1, hs₃.1, hs₂.1, hs₁.1]
  have hz₅ : IsZip h₅ z TI TO .ellipsis := hs₅.extBut _ _ D.TOz.symm (hs₄.extBut _ _ D.i2z.symm (hs₃.extBut _ _ D.TOz.symm (hs₂.extBut _ _ D.i1z.symm hz₁)))
  have hk₅ : ∀ c o, c ≠ z → c ≠ TO → c ≠ i1 → c ≠ i2 → s.heap.get? c = some o → h₅.get? c = some o := fun c o c1 c2 c3 c4 e =>
    hs₅.extBut _ _ c2 (hs₄.extBut _ _ c4 (hs₃.extBut _ _ c2 (hs₂.extBut _ _ c3 (hs₁.extBut _ _ c1 e))))
  have h1₅ : ItB t1 h₅ i1 l1 (k1 + 1) := ((h1₂.extBut hs₃.extBut D.TOi1.symm).extBut hs₄.extBut D.i12).extBut hs₅.extBut D.TOi1.symm
  have h2₅ : ItB t2 h₅ i2 l2 (k2 + 1) := h2₄.extBut hs₅.extBut D.TOi2.symm
  have hzlt : z < h₅.objs.size := Heap.lt_size hz₅
  have hTOlt : TO < h₅.objs.size := Heap.lt_size hTO₅
  have hi1lt : i1 < h₅.objs.size := by obtain ⟨_, e, _⟩ := h1₅.obj; exact Heap.lt_size e
  have hi2lt : i2 < h₅.objs.size := by obtain ⟨_, e, _⟩ := h2₅.obj; exact Heap.lt_size e
  show wpAny _ _ (Builtin.SmallTypes.ownedTupleHandOut (.ref z) (.ref h₅.objs.size) >>= _) _ _ _
  refine wpAny_bind ?_
  unfold Builtin.SmallTypes.ownedTupleHandOut
  have hz₆ : IsZip (h₅.push { cls := .type "tuple", data := .seq #[x, y] }) z TI TO .ellipsis := Heap.get?_push_of_some _ hz₅
  refine wpAny_bind (wpAny_setField_rec hz₆ (by simp) fun h₇ hz₇ hs₇ => ?_)
  replace hz₇ : IsZip h₇ z TI TO (rawInt h₅.objs.size) := hz₇
  refine wpAny_setField_rec hz₇ (by simp) fun h₈ hz₈ hs₈ => ?_
  replace hz₈ : IsZip h₈ z TI TO (rawInt h₅.objs.size) := hz₈
  have up : ∀ c o, c ≠ z → h₅.get? c = some o → h₈.get? c = some o := fun c o c1 e => hs₈.extBut _ _ c1 (hs₇.extBut _ _ c1 (Heap.get?_push_of_some _ e))
  have hT₈ : IsPair h₈ h₅.objs.size x y := hs₈.extBut _ _ (Nat.ne_of_gt hzlt) (hs₇.extBut _ _ (Nat.ne_of_gt hzlt) (Heap.get?_push_size _ rfl))
  have hz8 : h₈.objs.size = h₅.objs.size + 1 := by rw [hs₈.1, hs₇.1, Heap.size_push]
  rw [hsz] at hz₈ hT₈ hz8
  refine wpAny_pure ⟨_, rfl, ?_⟩
  show Q (.ref h₅.objs.size) _
  rw [hsz]
  exact hQ h₈ hz₈ (up _ _ D.TOz hTO₅) (h1₅.at fun o e => up _ o D.i1z e) (h2₅.at fun o e => up _ o D.i2z e) hT₈ hz8 fun c o c1 c2 c3 c4 e => up c o c1 (hk₅ c o c1 c2 c3 c4 e)

theorem zipB_next_end {z TI TO i1 i2 l1 l2 : Addr} {k1 k2 : Nat} {xs ys : Array Value} {a b : Value} {Q : Fin → Shared → Prop} (hh : A.handled = none) (D : ZipApart z TI TO i1 i2 l1 l2)
    (hz : IsZip s.heap z TI TO .none) (hTI : IsPair s.heap TI (.ref i1) (.ref i2)) (hTO : IsPair s.heap TO a b)
    (h1 : ItB t1 s.heap i1 l1 k1) (h2 : ItB t2 s.heap i2 l2 k2) (hl1 : SqV t1 s.heap l1 xs) (hl2 : SqV t2 s.heap l2 ys) (hend : xs[k1]? = none ∨ ys[k2]? = none)
    (hE : ∀ h' e, (∀ c o, c ≠ z → c ≠ TO → c ≠ i1 → c ≠ i2 → s.heap.get? c = some o → h'.get? c = some o) → (∃ o, h'.get? e = some o ∧ o.cls = .type "StopIteration") → E (.ref e) { s with heap := h' }) :
    wpAny (model prog w) A (Builtin.«zip.__next__» ⟨[.ref z], []⟩) Q E s := by
  show wpAny _ _ (field (.ref z) 2 >>= _) _ _ _
  refine wpAny_bind (wpAny_field hz rfl (x := .bool false) rfl ?_)
  show wpAny _ _ (field (.ref z) 3 >>= _) _ _ _
  refine wpAny_bind (wpAny_field hz rfl (x := .ref TI) rfl ?_)
  refine wpAny_bind (wpAny_seqItems hTI rfl ?_)
  show wpAny _ _ (Builtin.SmallTypes.ownedTupleIsFree (.ref z) >>= _) _ _ _
  refine wpAny_bind ?_
  unfold Builtin.SmallTypes.ownedTupleIsFree
  refine wpAny_bind (wpAny_field hz rfl (x := .none) rfl (wpAny_pure ?_))
  simp only [if_true]
  refine wpAny_bind (wpAny_rule ?_)
  refine wpAny_bind (wpAny_field hz rfl (x := .ref TO) rfl ?_)
  refine wpAny_bind (wpAny_setField_rec hz (by simp) fun h₁ hz₁ hs₁ => ?_)
  replace hz₁ : IsZip h₁ z TI TO .ellipsis := hz₁
  refine wpAny_bind ?_
  simp only [List.zipIdx_cons, List.zipIdx_nil, List.forIn_cons, List.forIn_nil]
  refine wpAny_bind (wpAny_bind (wpAny_onRaise ?_))
  show wpAny _ _ (Builtin.SmallTypes.nextOf (.ref i1) >>= _) _ _ _
  cases hx : xs[k1]? with
  | none =>
    refine wpAny_bind (nextOfB_end hh (h1.extBut hs₁.extBut D.i1z) (hl1.extBut hs₁.extBut D.l1z) hx fun h₂ e hs₂ he => ?_)
    obtain ⟨oe, hoe, hce⟩ := he
    have hz₂ : IsZip h₂ z TI TO .ellipsis := hs₂ _ _ D.i1z.symm hz₁
    have hez : e ≠ z := fun x => by subst x; rw [hz₂] at hoe; cases hoe; simp at hce
    refine wpAny_setField_rec hz₂ (by simp) fun h₃ _ hs₃ => hE h₃ e (fun c o c1 _ c3 _ x => hs₃.extBut _ _ c1 (hs₂ _ _ c3 (hs₁.extBut _ _ c1 x))) ⟨oe, hs₃.extBut _ _ hez hoe, hce⟩
  | some x =>
    have hy : ys[k2]? = none := by rcases hend with h | h; rw [hx] at h; cases h; exact h
    refine wpAny_bind (nextOfB_item (h1.extBut hs₁.extBut D.i1z) (hl1.extBut hs₁.extBut D.l1z) hx fun h₂ h1₂ hs₂ => wpAny_pure ?_)
    have hTO₂ : IsPair h₂ TO a b := hs₂.extBut _ _ D.TOi1 (hs₁.extBut _ _ D.TOz hTO)
    refine wpAny_bind (wpAny_seqItems hTO₂ rfl ?_)
    refine wpAny_bind (wpAny_updateSeq_pair hTO₂ fun h₃ hTO₃ hs₃ => ?_)
    refine wpAny_bind (wpAny_letGo (wpAny_pure ?_))
    refine wpAny_bind (wpAny_bind (wpAny_onRaise ?_))
    show wpAny _ _ (Builtin.SmallTypes.nextOf (.ref i2) >>= _) _ _ _
    refine wpAny_bind (nextOfB_end hh (((h2.extBut hs₁.extBut D.i2z).extBut hs₂.extBut D.i12.symm).extBut hs₃.extBut D.TOi2.symm)
      (((hl2.extBut hs₁.extBut D.l2z).extBut hs₂.extBut D.l2i1).extBut hs₃.extBut D.l2TO) hy fun h₄ e hs₄ he => ?_)
    obtain ⟨oe, hoe, hce⟩ := he
    have hz₄ : IsZip h₄ z TI TO .ellipsis := hs₄ _ _ D.i2z.symm (hs₃.extBut _ _ D.TOz.symm (hs₂.extBut _ _ D.i1z.symm hz₁))
    have hez : e ≠ z := fun x => by subst x; rw [hz₄] at hoe; cases hoe; simp at hce
    refine wpAny_setField_rec hz₄ (by simp) fun h₅ _ hs₅ => hE h₅ e (fun c o c1 c2 c3 c4 x => hs₅.extBut _ _ c1 (hs₄ _ _ c4 (hs₃.extBut _ _ c2 (hs₂.extBut _ _ c3 (hs₁.extBut _ _ c1 x))))) ⟨oe, hs₅.extBut _ _ hez hoe, hce⟩

theorem pyNext_zipB_item {z TI TO i1 i2 l1 l2 : Addr} {k1 k2 : Nat} {xs ys : Array Value} {x y a b : Value} {Q : Option Value → Shared → Prop} (D : ZipApart z TI TO i1 i2 l1 l2)
    (hz : IsZip s.heap z TI TO .none) (hTI : IsPair s.heap TI (.ref i1) (.ref i2)) (hTO : IsPair s.heap TO a b)
    (h1 : ItB t1 s.heap i1 l1 k1) (h2 : ItB t2 s.heap i2 l2 k2) (hl1 : SqV t1 s.heap l1 xs) (hl2 : SqV t2 s.heap l2 ys) (hx : xs[k1]? = some x) (hy : ys[k2]? = some y)
    (hQ : ∀ h', IsZip h' z TI TO (rawInt s.heap.objs.size) → IsPair h' TO x y → ItB t1 h' i1 l1 (k1 + 1) → ItB t2 h' i2 l2 (k2 + 1) → IsPair h' s.heap.objs.size x y → h'.objs.size = s.heap.objs.size + 1 →
      (∀ c o, c ≠ z → c ≠ TO → c ≠ i1 → c ≠ i2 → s.heap.get? c = some o → h'.get? c = some o) → Q (some (.ref s.heap.objs.size)) { s with heap := h' }) :
    wpAny (model prog w) A (pyNext (.ref z)) Q E s := by
  have hT : s.TypeIs (.ref z) "zip" := ⟨_, hz, rfl⟩
  unfold pyNext
  exact wpAny_bind (wpAny_attempt (wpAny_callSpecial?_slot (name := Str.ofString "__next__") hT F.slot_zip_next
    (wpAny_call_entry F.slot_zip_next hT F.entry_zip_next
      (zipB_next_item D hz hTI hTO h1 h2 hl1 hl2 hx hy fun h' a1 a2 a3 a4 a5 a6 a7 => wpAny_pure (hQ h' a1 a2 a3 a4 a5 a6 a7)) (F.args_zip_next_1 _))))

theorem pyNext_zipB_end {z TI TO i1 i2 l1 l2 : Addr} {k1 k2 : Nat} {xs ys : Array Value} {a b : Value} {Q : Option Value → Shared → Prop} (hh : A.handled = none) (D : ZipApart z TI TO i1 i2 l1 l2)
    (hz : IsZip s.heap z TI TO .none) (hTI : IsPair s.heap TI (.ref i1) (.ref i2)) (hTO : IsPair s.heap TO a b)
    (h1 : ItB t1 s.heap i1 l1 k1) (h2 : ItB t2 s.heap i2 l2 k2) (hl1 : SqV t1 s.heap l1 xs) (hl2 : SqV t2 s.heap l2 ys) (hend : xs[k1]? = none ∨ ys[k2]? = none)
    (hQ : ∀ h', (∀ c o, c ≠ z → c ≠ TO → c ≠ i1 → c ≠ i2 → s.heap.get? c = some o → h'.get? c = some o) → Q none { s with heap := h' }) : wpAny (model prog w) A (pyNext (.ref z)) Q E s := by
  have hT : s.TypeIs (.ref z) "zip" := ⟨_, hz, rfl⟩
  unfold pyNext
  refine wpAny_bind (wpAny_attempt (wpAny_callSpecial?_slot (name := Str.ofString "__next__") hT F.slot_zip_next
    (wpAny_call_entry F.slot_zip_next hT F.entry_zip_next (zipB_next_end hh D hz hTI hTO h1 h2 hl1 hl2 hend fun h' e hk he => ?_) (F.args_zip_next_1 _))))
  obtain ⟨o, ho, hc⟩ := he
  refine wpAny_bind (wpAny_isInstance (T := "StopIteration") (b := true) ⟨o, ho, hc⟩ isSubtype_stop ?_)
  exact wpAny_pure (hQ _ hk)
end

abbrev zipBH1 (t1 : Bool) (h : Heap) (l1 : Addr) : Heap := h.push { cls := .type (itN t1), data := .fields #[.ref l1, .int 0 0] }
abbrev zipBH2 (t1 t2 : Bool) (h : Heap) (l1 l2 : Addr) : Heap := (zipBH1 t1 h l1).push { cls := .type (itN t2), data := .fields #[.ref l2, .int 0 0] }
abbrev zipBH3 (t1 t2 : Bool) (h : Heap) (l1 l2 : Addr) : Heap := (zipBH2 t1 t2 h l1 l2).push { cls := .type "tuple", data := .seq #[.ref h.objs.size, .ref (zipBH1 t1 h l1).objs.size] }
abbrev zipBH4 (t1 t2 : Bool) (h : Heap) (l1 l2 : Addr) : Heap := (zipBH3 t1 t2 h l1 l2).push { cls := .type "tuple", data := .seq #[.none, .none] }
abbrev zipBH5 (t1 t2 : Bool) (h : Heap) (l1 l2 : Addr) : Heap := (zipBH4 t1 t2 h l1 l2).push { cls := .type "zip", data := .fields #[.none, .bool false, .bool false, .ref (zipBH2 t1 t2 h l1 l2).objs.size, .ref (zipBH3 t1 t2 h l1 l2).objs.size] }

theorem meets_zipB_new (t1 t2 : Bool) (l1 l2 : Addr) (xs ys : Array Value) :
    Meets (Builtin.«zip.__new__» ⟨[.type "zip", .ref l1, .ref l2], []⟩) (fun _ R s => SqV t1 s.heap l1 xs ∧ SqV t2 s.heap l2 ys ∧
      R (.ok (.ret (.ref (zipBH4 t1 t2 s.heap l1 l2).objs.size))) { s with heap := zipBH5 t1 t2 s.heap l1 l2 }) :=
  .of_wp fun prog w A R s h => by
    obtain ⟨hp, g, d, tk, os⟩ := s; obtain ⟨hl1, hl2, h⟩ := h
    have hsub := sub_zip
    cases t1 <;> cases t2
    · have hL1 : Heap.IsList (Shared.heap ⟨hp, g, d, tk, os⟩) l1 xs := hl1
      have hL2 : Heap.IsList (Shared.heap ⟨hp.push { cls := .type "list_iterator", data := .fields #[.ref l1, .int 0 0] }, g, d, tk, os⟩) l2 ys := Heap.IsList.push hl2 _
      wp_walk using wpAny_pyIter_list hL1, wpAny_pyIter_list hL2
      refine ⟨_, rfl, ?_⟩
      unfold zipBH5 zipBH4 zipBH3 zipBH2 zipBH1 itN at h
      exact h
    · have hL1 : Heap.IsList (Shared.heap ⟨hp, g, d, tk, os⟩) l1 xs := hl1
      have hL2 : Heap.IsTuple (Shared.heap ⟨hp.push { cls := .type "list_iterator", data := .fields #[.ref l1, .int 0 0] }, g, d, tk, os⟩) l2 ys := Heap.IsTuple.push hl2 _
      wp_walk using wpAny_pyIter_list hL1, wpAny_pyIter_tuple hL2
      refine ⟨_, rfl, ?_⟩
      unfold zipBH5 zipBH4 zipBH3 zipBH2 zipBH1 itN at h
      exact h
    · have hL1 : Heap.IsTuple (Shared.heap ⟨hp, g, d, tk, os⟩) l1 xs := hl1
      have hL2 : Heap.IsList (Shared.heap ⟨hp.push { cls := .type "tuple_iterator", data := .fields #[.ref l1, .int 0 0] }, g, d, tk, os⟩) l2 ys := Heap.IsList.push hl2 _
      wp_walk using wpAny_pyIter_tuple hL1, wpAny_pyIter_list hL2
      refine ⟨_, rfl, ?_⟩
      unfold zipBH5 zipBH4 zipBH3 zipBH2 zipBH1 itN at h
      exact h
    · have hL1 : Heap.IsTuple (Shared.heap ⟨hp, g, d, tk, os⟩) l1 xs := hl1
      have hL2 : Heap.IsTuple (Shared.heap ⟨hp.push { cls := .type "tuple_iterator", data := .fields #[.ref l1, .int 0 0] }, g, d, tk, os⟩) l2 ys := Heap.IsTuple.push hl2 _
      wp_walk using wpAny_pyIter_tuple hL1, wpAny_pyIter_tuple hL2
      refine ⟨_, rfl, ?_⟩
      unfold zipBH5 zipBH4 zipBH3 zipBH2 zipBH1 itN at h
      exact h

section
variable {prog : Program} {w : World} {A : Around} {E : Value → Shared → Prop} {s : Shared} {t1 t2 : Bool}

theorem call_zipB {l1 l2 : Addr} {xs ys : Array Value} {Q : Value → Shared → Prop} (hl1 : SqV t1 s.heap l1 xs) (hl2 : SqV t2 s.heap l2 ys)
    (h : ∀ h', IsZip h' (s.heap.objs.size + 4) (s.heap.objs.size + 2) (s.heap.objs.size + 3) .none → IsPair h' (s.heap.objs.size + 2) (.ref s.heap.objs.size) (.ref (s.heap.objs.size + 1)) →
      IsPair h' (s.heap.objs.size + 3) .none .none → ItB t1 h' s.heap.objs.size l1 0 → ItB t2 h' (s.heap.objs.size + 1) l2 0 → h'.objs.size = s.heap.objs.size + 5 →
      (∀ c o, s.heap.get? c = some o → h'.get? c = some o) → Q (.ref (s.heap.objs.size + 4)) { s with heap := h' }) :
    wpAny (model prog w) A (call (.type "zip") [.ref l1, .ref l2]) Q E s := by
  refine callType_new F.called_zip (by decide) (F.typeCall_zip_2 _ _) (F.newCall_zip_2 _ _) (fun obj => F.args_object_init_3 obj _ _) F.entry_zip_new
    (meets_zipB_new t1 t2 l1 l2 xs ys) ⟨hl1, hl2, ?_⟩
  have z1 : (zipBH1 t1 s.heap l1).objs.size = s.heap.objs.size + 1 := Heap.size_push ..
  have z2 : (zipBH2 t1 t2 s.heap l1 l2).objs.size = s.heap.objs.size + 2 := by rw [Heap.size_push, z1]
  have z3 : (zipBH3 t1 t2 s.heap l1 l2).objs.size = s.heap.objs.size + 3 := by rw [Heap.size_push, z2]
  have z4 : (zipBH4 t1 t2 s.heap l1 l2).objs.size = s.heap.objs.size + 4 := by rw [Heap.size_push, z3]
  have z5 : (zipBH5 t1 t2 s.heap l1 l2).objs.size = s.heap.objs.size + 5 := by rw [Heap.size_push, z4]
  have g5 : (zipBH5 t1 t2 s.heap l1 l2).get? (zipBH4 t1 t2 s.heap l1 l2).objs.size = some _ := Heap.get?_push_size _ rfl
  have g4 : (zipBH5 t1 t2 s.heap l1 l2).get? (zipBH3 t1 t2 s.heap l1 l2).objs.size = some _ := Heap.get?_push_of_some _ (Heap.get?_push_size _ rfl)
  have g3 : (zipBH5 t1 t2 s.heap l1 l2).get? (zipBH2 t1 t2 s.heap l1 l2).objs.size = some _ := Heap.get?_push_of_some _ (Heap.get?_push_of_some _ (Heap.get?_push_size _ rfl))
  have g2 : (zipBH5 t1 t2 s.heap l1 l2).get? (zipBH1 t1 s.heap l1).objs.size = some _ := Heap.get?_push_of_some _ (Heap.get?_push_of_some _ (Heap.get?_push_of_some _ (Heap.get?_push_size _ rfl)))
  have g1 : (zipBH5 t1 t2 s.heap l1 l2).get? s.heap.objs.size = some _ := Heap.get?_push_of_some _ (Heap.get?_push_of_some _ (Heap.get?_push_of_some _ (Heap.get?_push_of_some _ (Heap.get?_push_size _ rfl))))
  show _ ∧ _
  rw [z2, z3, z4] at g5
  rw [z1, z2] at g3
  rw [z3] at g4
  rw [z1] at g2
  rw [z4]
  exact ⟨⟨_, g5, rfl⟩, h _ g5 g3 g4 (by cases t1 <;> exact ⟨_, g1, rfl, rfl⟩) (by cases t2 <;> exact ⟨_, g2, rfl, rfl⟩) z5 fun c o x =>
    Heap.get?_push_of_some _ (Heap.get?_push_of_some _ (Heap.get?_push_of_some _ (Heap.get?_push_of_some _ (Heap.get?_push_of_some _ x))))⟩
end
theorem sqB_inv {t : Bool} {X : Cx} {pins : List (Addr × Obj)} {σ : L2.St} {H : Hp} {s : Shared} {a : Addr} {xs : List V} (I : Inv X pins σ H s) (h : SqB t X.K H a xs) : ∃ its : List Value, Vals xs its ∧ SqV t s.heap a its.toArray := by
  cases t
  · obtain ⟨its, rv, p, _⟩ := I.list h; exact ⟨its, rv, p.isList⟩
  · obtain ⟨its, rv, p, _⟩ := I.tuple h; exact ⟨its, rv, p⟩
theorem sqB_inj {t : Bool} {X : Cx} {pins : List (Addr × Obj)} {σ : L2.St} {H : Hp} {s : Shared} {a : Addr} {xs ys : List V} (I : Inv X pins σ H s) (h : SqB t X.K H a xs) (k : SqB t X.K H a ys) : xs = ys := by
  cases t
  · exact I.list_inj h k
  · exact I.tuple_inj h k
/-- the tuples at a and b as they stand at each turn, the items in new pairs -/
def ItzB (t1 t2 : Bool) (K : PySem.W.Frag) (a b : Addr) : It :=
  ⟨fun i H => ∃ (xs ys : List V) (x y : V), SqB t1 K H a xs ∧ SqB t2 K H b ys ∧ xs[i]? = some x ∧ ys[i]? = some y,
    fun i H v H' => ∃ T x y, v = .ref T ∧ H T = none ∧ H' = upd H T (.tup [x, y]) ∧ (∀ xs, SqB t1 K H a xs → xs[i]? = some x) ∧ ∀ ys, SqB t2 K H b ys → ys[i]? = some y,
    fun i H => ∃ xs ys : List V, SqB t1 K H a xs ∧ SqB t2 K H b ys ∧ (xs.length ≤ i ∨ ys.length ≤ i)⟩
theorem turn_zipB {t1 t2 : Bool} {P : Program} {w : World} {K : PySem.W.Frag} {elts : List Expr} {kk : Nat} {tpos : Pos} {a b z TI TO i1 i2 : Addr} (D : ZipApart z TI TO i1 i2 a b) :
    Turn P w K (.Tuple elts kk tpos) (ItzB t1 t2 K a b) [z, TI, TO, i1, i2] z (fun i h => IsZip h z TI TO .none ∧ IsPair h TI (.ref i1) (.ref i2) ∧ (∃ x y, IsPair h TO x y) ∧ ItB t1 h i1 a i ∧ ItB t2 h i2 b i) where
  mem := by simp
  obj := fun i h st c hc => by
    obtain ⟨hz, hTI, ⟨x, y, hTO⟩, h1, h2⟩ := st
    obtain ⟨o1, e1, d1⟩ := h1.obj
    obtain ⟨o2, e2, d2⟩ := h2.obj
    have e' : c = z ∨ c = TI ∨ c = TO ∨ c = i1 ∨ c = i2 := by simpa using hc
    rcases e' with q | q | q | q | q
    · rw [q]; exact ⟨_, hz, fun v q => nomatch q⟩
    · rw [q]; exact ⟨_, hTI, fun v q => nomatch q⟩
    · rw [q]; exact ⟨_, hTO, fun v q => nomatch q⟩
    · rw [q]; exact ⟨o1, e1, d1⟩
    · rw [q]; exact ⟨o2, e2, d2⟩
  keep := fun i h h' st k => by
    obtain ⟨hz, hTI, ⟨x, y, hTO⟩, h1, h2⟩ := st
    exact ⟨k z (by simp) _ hz, k TI (by simp) _ hTI, ⟨x, y, k TO (by simp) _ hTO⟩, h1.at fun o q => k i1 (by simp) o q, h2.at fun o q => k i2 (by simp) o q⟩
  item := by
    intro X hP hw hK hc i pins s σ H E I hf st hg
    subst hP hw hK
    obtain ⟨hz, hTI, ⟨x0, y0, hTO⟩, h1, h2⟩ := st
    obtain ⟨xs, ys, x, y, hqx, hqy, hx, hy⟩ := hg
    obtain ⟨its, rv, p⟩ := sqB_inv I hqx
    obtain ⟨its2, rv2, p2⟩ := sqB_inv I hqy
    obtain ⟨u, hu, ru⟩ := rv.get hx
    obtain ⟨u2, hu2, ru2⟩ := rv2.get hy
    have hzl : z < s.heap.objs.size := Heap.lt_size hz
    refine pyNext_zipB_item D hz hTI hTO h1 h2 p p2 (x := u) (y := u2) (by simpa using hu) (by simpa using hu2) fun h' z' TO' h1' h2' hT hsz hk => ?_
    refine ⟨_, rfl, wpAny_letOwnedTupleGo_zip (s := { s with heap := h' }) z' fun h'' z'' sb => ?_⟩
    have hT2 : h''.get? s.heap.objs.size = some { cls := .type "tuple", data := .seq #[u, u2] } := (sb.2 _ (Nat.ne_of_gt hzl)).trans hT
    have new : ObjOk X.prog X.w (upd H s.heap.objs.size (.tup [x, y])) h'' s.heap.objs.size (.tup [x, y]) :=
      ⟨by show 2 ≤ sizeLine; decide, [u, u2], .cons ru (.cons ru2 .nil), ⟨_, hT2, rfl, _, rfl⟩⟩
    have I1 : Inv X pins σ (upd H s.heap.objs.size (.tup [x, y])) { s with heap := h'' } :=
      I.turnedNew (t' := s.toks) (ch := [z, TI, TO, i1, i2]) (fun c o hb q => (sb.2 c (fun q' => hb (by simp [q']))).trans (hk c o (fun q' => hb (by simp [q'])) (fun q' => hb (by simp [q'])) (fun q' => hb (by simp [q'])) (fun q' => hb (by simp [q'])) q)) hf (Nat.le_refl _) new
    refine ⟨.ref s.heap.objs.size, _, I1, rfl, ⟨_, x, y, rfl, I.hok.fresh (Nat.le_refl _), rfl, fun l hl => by rw [sqB_inj I hl hqx]; exact hx, fun l hl => by rw [sqB_inj I hl hqy]; exact hy⟩, ⟨z'', ?_, ⟨u, u2, ?_⟩, ?_, ?_⟩, fun c hcm => ?_⟩
    · exact (sb.2 _ D.TIz).trans (hk _ _ D.TIz D.TITO D.TIi1 D.TIi2 hTI)
    · exact (sb.2 _ D.TOz).trans TO'
    · exact h1'.at fun o q => (sb.2 _ D.i1z).trans q
    · exact h2'.at fun o q => (sb.2 _ D.i2z).trans q
    · have hlt : c < s.heap.objs.size := by
        have e' : c = z ∨ c = TI ∨ c = TO ∨ c = i1 ∨ c = i2 := by simpa using hcm
        rcases e' with q | q | q | q | q
        · rw [q]; exact hzl
        · rw [q]; exact Heap.lt_size hTI
        · rw [q]; exact Heap.lt_size hTO
        · rw [q]; obtain ⟨_, e1, _⟩ := h1.obj; exact Heap.lt_size e1
        · rw [q]; obtain ⟨_, e2, _⟩ := h2.obj; exact Heap.lt_size e2
      rw [upd_ne (Nat.ne_of_lt hlt)]
      exact (hf c hcm).1
  done := by
    intro X hP hw hK hc i pins s σ H E I hf st hg
    subst hP hw hK
    obtain ⟨hz, hTI, ⟨x0, y0, hTO⟩, h1, h2⟩ := st
    obtain ⟨xs, ys, hqx, hqy, hend⟩ := hg
    obtain ⟨its, rv, p⟩ := sqB_inv I hqx
    obtain ⟨its2, rv2, p2⟩ := sqB_inv I hqy
    have l1 := rv.length
    have l2 := rv2.length
    have he : its.toArray[i]? = none ∨ its2.toArray[i]? = none := by
      rcases hend with q | q
      · exact .inl (by simp; omega)
      · exact .inr (by simp; omega)
    exact pyNext_zipB_end (I.ok.hd hc) D hz hTI hTO h1 h2 p p2 he fun h' hk => ⟨rfl, I.turnedL (t' := s.toks) (ch := [z, TI, TO, i1, i2]) (fun c o hb q =>
      hk c o (fun q' => hb (by simp [q'])) (fun q' => hb (by simp [q'])) (fun q' => hb (by simp [q'])) (fun q' => hb (by simp [q'])) q) hf⟩
  self := fun A i s Q E st h => wpAny_pyIter_zip st.1 h


def iZipM (K : PySem.W.Frag) (ta : TA) : TI := fun σ H R => ta σ H fun vs H1 => ∃ (t1 t2 : Bool) (a b : Addr) (xs ys : List V), vs = [.ref a, .ref b] ∧ SqB t1 K H1 a xs ∧ SqB t2 K H1 b ys ∧ R (ItzB t1 t2 K a b) H1
theorem SqV.lt {t : Bool} {h : Heap} {l : Addr} {xs : Array Value} (x : SqV t h l xs) : l < h.objs.size := by
  cases t
  · obtain ⟨o, e, _⟩ := x; exact Heap.lt_size e
  · obtain ⟨o, e, _⟩ := x; exact Heap.lt_size e
theorem pi_zipM {X : Cx} {e e2 : Expr} {ta : TA} {p pos tpos : Pos} {elts : List Expr} {kk : Nat} (hg : Gl X "zip") (hm : X.mg "zip" = none) (ha : PA X [e, e2] ta)
    (hs : starEach [e, e2] X.env = (false, eval e X.env) :: starEach [e2] X.env := by rfl) (hpl : (backTo pos (starEach [e2] X.env)).any (·.1) = false := by rfl) :
    PI X (.Tuple elts kk tpos) (.Call (.Name "zip" p) [e, e2] [] pos) (iZipM X.K ta) := by
  refine ⟨fun pins s σ H R I h => ?_⟩
  refine Call_ (ld_blt I hg hm PyProof.Rows.boot_zip (PyProof.Rows.callWith_type1 (thn (ha.run pos pins s σ H _ I h) fun us s1 ⟨vs, H1, I1, r1, q1⟩ => ?_) hs hpl))
  obtain ⟨t1, t2, a, b, xs, ys, ex, hqx, hqy, q⟩ := q1
  subst ex
  cases r1 with
  | cons r rr =>
    cases rr with
    | cons r' rr =>
      cases rr
      cases r
      cases r'
      have fresh5 : ∀ c, c ∈ [s1.heap.objs.size + 4, s1.heap.objs.size + 2, s1.heap.objs.size + 3, s1.heap.objs.size, s1.heap.objs.size + 1] → FpOk X pins H1 c := fun c hcm => by
        have e' : c = s1.heap.objs.size + 4 ∨ c = s1.heap.objs.size + 2 ∨ c = s1.heap.objs.size + 3 ∨ c = s1.heap.objs.size ∨ c = s1.heap.objs.size + 1 := by simpa using hcm
        have hle : s1.heap.objs.size ≤ c := by
          rcases e' with z | z | z | z | z <;> rw [z] <;> omega
        exact I1.fpOk hle (I1.hok.fresh hle)
      obtain ⟨its, rv, p1⟩ := sqB_inv I1 hqx
      obtain ⟨its2, rv2, p2⟩ := sqB_inv I1 hqy
      refine call_zipB p1 p2 fun h' hz hTI hTO h1 h2 hsz hk => wpAny_pyIter_zip hz ?_
      have I2 : Inv X pins σ H1 { s1 with heap := h' } := I1.kept (t' := s1.toks) hk
      exact ⟨s1.heap.objs.size + 4, [s1.heap.objs.size + 4, s1.heap.objs.size + 2, s1.heap.objs.size + 3, s1.heap.objs.size, s1.heap.objs.size + 1], _, _, H1, rfl, I2, turn_zipB (PySem.W.ktu_apart s1.heap.objs.size a b p1.lt p2.lt), ⟨hz, hTI, ⟨_, _, hTO⟩, h1, h2⟩, fresh5, q⟩
/-! the reading over data -/
def zipD (xs ys : List PyData) : List PyData := (xs.zip ys).map fun p => .tuple [p.1, p.2]
theorem SqB.of {K : PySem.W.Frag} {H : Hp} {a : Addr} {vs : List V} : (H a = some (.lst vs) → SqB false K H a vs) ∧ (H a = some (.tup vs) → SqB true K H a vs) := ⟨fun h => SqL.of h, fun h => SqT.of h⟩
theorem wk_zip {K : PySem.W.Frag} {t1 t2 : Bool} {a b : Addr} {vs us : List V} {F H : Hp} {xs ys : List PyData} (s : Sub F H) (ha : SqB t1 K H a vs) (hb : SqB t2 K H b us) (ra : RpAll F vs xs) (rb : RpAll F us ys) :
    (∀ i d, (zipD xs ys)[i]? = some d → (ItzB t1 t2 K a b).go i H ∧ ∀ x H', (ItzB t1 t2 K a b).yld i H x H' → ∃ F', Grow [] F H F' H' ∧ Rp F' x d) ∧ (ItzB t1 t2 K a b).stop (zipD xs ys).length H :=
  ⟨fun i d e => by
    unfold zipD at e
    rw [List.getElem?_map] at e
    cases q : (xs.zip ys)[i]? with
    | none => rw [q] at e; cases e
    | some pq =>
      rw [q] at e
      cases e
      obtain ⟨q1, q2⟩ := List.getElem?_zip_eq_some.mp q
      obtain ⟨v, h1, h2⟩ := ra.get q1
      obtain ⟨u, h3, h4⟩ := rb.get q2
      refine ⟨⟨vs, us, v, u, ha, hb, h1, h3⟩, fun x H' ⟨T, z1, z2, e1, e2, e3, e4, e5⟩ => ?_⟩
      subst e1 e3
      have e6 := e4 vs ha
      rw [h1] at e6; cases e6
      have e7 := e5 us hb
      rw [h3] at e7; cases e7
      exact ⟨_, .new s e2, .tup upd_same (.cons (h2.mono (Sub.new (s.none e2))) (.cons (h4.mono (Sub.new (s.none e2))) .nil))⟩,
   ⟨vs, us, ha, hb, by unfold zipD; rw [List.length_map, List.length_zip, ra.length, rb.length]; omega⟩⟩
section
variable {A : Str → Addr} {C : Pc} {E : L2.St → XK} {Γ : List Sl} {K : PySem.W.Frag} {ta tb : TE} {ma mb : WD}
theorem rp_seq {F : Hp} {v : V} {d : PyData} {k : List PyData → Prop} (r : Rp F v d) (h : seqW d k) : ∃ (t : Bool) (p : Addr) (vs : List V) (ds : List PyData), v = .ref p ∧ k ds ∧ RpAll F vs ds ∧ ∀ H', Sub F H' → SqB t K H' p vs := by
  cases r with
  | lst f ra => exact ⟨false, _, _, _, rfl, h, ra, fun H' s => SqL.of (s _ _ f)⟩
  | tup f ra => exact ⟨true, _, _, _, rfl, h, ra, fun H' s => SqT.of (s _ _ f)⟩
  | _ => exact h.elim
theorem fw_zip (ha : Ew A C E ta Γ ma) (hb : Ew A C E tb Γ mb) : Fw A C E (iZipM K (tCons ta (tCons tb tNil))) Γ (fun P X => ma (fun x => mb (fun y => seqW x fun xs => seqW y fun ys => letW (zipD xs ys) P) X) X) := fun P X hm B F H σ wd g R r xo =>
  ha _ X hm B F H σ wd g _ (fun v F1 H1 x g1 w1 h1 r1 => hb _ X h1 B F1 H1 σ w1 (g.grow g1) _ (fun u F2 H2 y g2 w2 h2 r2 => by
    obtain ⟨t1, p, vs, xs, rfl, h3, ra, qa⟩ := rp_seq (K := K) (r1.mono g2.ff) h2
    obtain ⟨t2, q, us, ys, rfl, h4, rb, qb⟩ := rp_seq (K := K) r2 h3
    refine ⟨t1, t2, p, q, vs, us, rfl, qa H2 w2.sub, qb H2 w2.sub, r _ F2 H2 _ (g1.trans g2) w2 h4 fun F3 H3 s1 s2 => wk_zip s2 (qa H3 (s1.trans s2)) (qb H3 (s1.trans s2)) (ra.mono s1) (rb.mono s1)⟩) (xo.go g1)) xo
end
end Eh

namespace Eh
open PySem PySem.Spec PyProof.Rows L2
variable {A : Str → Addr} {C : Pc} {E : L2.St → XK} {Γ : List Sl} {K : PySem.W.Frag} {ta tb te : TE} {la : WL} {ma mb m : WD} {B F0 : Hp} {P : PyData → Prop} {X : XP} {N0 : L2.St → Hp → Prop} {r0 : L2.VK} {b0 c0 : L2.St → Hp → Prop}
/-- a list some times over -/
abbrev mulLW (xs : List PyData) (y : PyData) (k : List PyData → Prop) : Prop := match y with | .int j => 0 ≤ j ∧ j ≤ 1000 ∧ xs.length ≤ 100 ∧ k (List.replicate j.toNat xs).flatten | _ => False
theorem rep_all {F : Hp} {vs : List V} {ds : List PyData} (r : RpAll F vs ds) : ∀ n : Nat, RpAll F (List.replicate n vs).flatten (List.replicate n ds).flatten
  | 0 => .nil
  | n + 1 => by rw [List.replicate_succ, List.replicate_succ, List.flatten_cons, List.flatten_cons]; exact r.append (rep_all r n)
theorem nw_mul (ha : Lw A C E ta Γ la) (hb : Ew A C E tb Γ mb) : Nw A C E (tOp (rMulA K) ta tb) Γ (fun P X => la (fun xs => mb (fun y => mulLW xs y P) X) X) :=
  fun P X hm B F H σ wd g Q q xo => ha _ X hm B F H σ wd g _ (fun v F1 H1 xs g1 w1 h1 ⟨p, vs, e, n, hl, ra⟩ => hb _ X h1 B F1 H1 σ w1 (g.grow g1) _ (fun u F2 H2 y g2 w2 h2 r2 => by
    subst e
    unfold mulLW at h2
    split at h2
    · rename_i j
      obtain ⟨h3, h4, h5, h6⟩ := h2
      rw [r2.int_inv]
      have hsz : vs.length * j.toNat ≤ sizeLine := by
        have h7 : vs.length * j.toNat ≤ 100 * 1000 := Nat.mul_le_mul (by rw [ra.length]; exact h5) (by omega)
        exact Nat.le_trans h7 (by decide)
      refine .inr (.inl ⟨p, j, vs, rfl, rfl, g2.hh _ _ n hl, by omega, by omega, hsz, fun b hb => ?_⟩)
      have gg := g1.trans g2
      exact q _ F2 _ _ (gg.trans (.newM w2.sub hb)) (newM_wd w2 hb) h6 ⟨b, _, rfl, gg.fresh hb, w2.sub.none hb, fun z => w2.sH b z hb, upd_same, rep_all (ra.mono g2.ff) _⟩
    · exact h2.elim) (xo.go g1)) xo
/-- two names for a pair -/
theorem aw_unp2 {i j : Nat} {k0 : PyData → PyData → Prop} {Γ' : PyData → PyData → List Sl} (hΓ : ∀ a b, (Γ.set i (.dat a)).set j (.dat b) = Γ' a b) (h : Ew A C E te Γ m) (hx : RaiseT A C B F0 Γ E X) (hm : m (fun x => un2W x k0) X)
    (k : ∀ a b, k0 a b → At C B F0 (Γ' a b) N0) : At C B F0 Γ (tAsg te (gTup K 2 (gCons (gName i) (gCons (gName j) gNil))) (Ends.mk N0 r0 b0 c0)) := fun F H σ w g e =>
  h _ X hm B F H σ w e _ (fun v F1 H1 d g1 w1 pd r => by
    obtain ⟨a, b, hk, tg⟩ := tg_un2 (vs := [i, j]) (Γ := Γ) (i := i) (j := j) (K := K) (by simp) (by simp) pd
    exact tg C B F1 H1 σ v w1.sub (e.grow g1) r _ fun σ' gm _ => k a b hk F1 H1 σ' w1 (g.trans g1) (by rw [← hΓ a b]; exact gm)) (hx.xo w g e)
end Eh

/-! what a text answers at given data, reckoned: for each op of the readings its reckoned twin (..B) and what the twin's yes tells of the op (..K) -/
namespace Eh
open PySem PySem.Spec PyProof.Rows L2
abbrev XB := Str → Option (List (Str × V)) → Bool
abbrev DB := PyData → Bool
def noB : XB := fun _ _ => false
theorem noK : ∀ n f, noB n f = true → noX n f := fun _ _ h => nomatch h
def bnd {α : Type} (o : Option α) (k : α → Bool) : Bool := match o with | some a => k a | none => false
theorem bndK {α : Type} {o : Option α} {kb : α → Bool} {p : Prop} {k : α → Prop} (hv : ∀ a, o = some a → k a → p) (h : bnd o kb = true) (hk : ∀ a, kb a = true → k a) : p := by
  cases o with
  | none => cases h
  | some a => exact hv a rfl (hk a h)
def iff' {α : Type} (c : Prop) [Decidable c] (a : α) : Option α := if c then some a else none
theorem iff'_ok {α : Type} {c : Prop} [Decidable c] {a b : α} (h : iff' c a = some b) : c ∧ b = a := by
  unfold iff' at h
  split at h
  · rename_i hc; exact ⟨hc, (Option.some.inj h).symm⟩
  · cases h
section
variable {α β σ : Type} {k : DP} {kb : DB} {kl : List PyData → Prop} {kbl : List PyData → Bool} {x y : PyData} {xs ys : List PyData}
/-! parts -/
def intO : PyData → Option Int | .int i => some i | _ => none
def boolO : PyData → Option Bool | .bool i => some i | _ => none
def seqO : PyData → Option (List PyData) | .list xs => some xs | .tuple xs => some xs | _ => none
def lstO : PyData → Option (List PyData) | .list xs => some xs | _ => none
abbrev intB (d : PyData) (k : Int → Bool) : Bool := bnd (intO d) k
abbrev boolB (d : PyData) (k : Bool → Bool) : Bool := bnd (boolO d) k
abbrev seqB (d : PyData) (k : List PyData → Bool) : Bool := bnd (seqO d) k
abbrev lstB (d : PyData) (k : List PyData → Bool) : Bool := bnd (lstO d) k
theorem intK {kb : Int → Bool} {k : Int → Prop} (h : intB x kb = true) (hk : ∀ a, kb a = true → k a) : intW x k := bndK (fun a e hh => by cases x <;> cases e; exact hh) h hk
theorem boolK {kb : Bool → Bool} {k : Bool → Prop} (h : boolB x kb = true) (hk : ∀ a, kb a = true → k a) : boolW x k := bndK (fun a e hh => by cases x <;> cases e; exact hh) h hk
theorem seqK (h : seqB x kbl = true) (hk : ∀ a, kbl a = true → kl a) : seqW x kl := bndK (fun a e hh => by cases x <;> cases e <;> exact hh) h hk
theorem lstK (h : lstB x kbl = true) (hk : ∀ a, kbl a = true → kl a) : lstW x kl := bndK (fun a e hh => by cases x <;> cases e; exact hh) h hk
/-! two numbers -/
abbrev OpO := PyData → PyData → Option PyData
def int2 (f : Int → Int → Option PyData) : OpO := fun x y => match x, y with | .int i, .int j => f i j | _, _ => none
theorem int2_ok {f : Int → Int → Option PyData} {d : PyData} (h : int2 f x y = some d) : ∃ i j, x = .int i ∧ y = .int j ∧ f i j = some d := by
  unfold int2 at h
  split at h
  · exact ⟨_, _, rfl, rfl, h⟩
  · cases h
abbrev opB (o : OpO) (x y : PyData) (k : DB) : Bool := bnd (o x y) k
def subO : OpO := int2 fun i j => some (.int (i - j))
def modO : OpO := int2 fun i j => iff' (0 < j) (.int (i % j))
def divO : OpO := int2 fun i j => iff' (0 < j ∧ j < 1073741824) (.int (i / j))
def powO : OpO := int2 fun i j => iff' (0 ≤ j ∧ j ≤ 1000000 ∧ i.natAbs < 2 ^ 64) (.int (i ^ j.toNat))
def shlO : OpO := int2 fun i j => iff' (0 ≤ j ∧ j ≤ 1000000 ∧ i.natAbs < 2 ^ 64) (.int (i * 2 ^ j.toNat))
def shrO : OpO := int2 fun i j => iff' (0 ≤ j) (.int (i / 2 ^ j.toNat))
def mulO : OpO := int2 fun i j => iff' ((-(2 ^ 64) < i ∧ i < 2 ^ 64) ∨ (-(2 ^ 64) < j ∧ j < 2 ^ 64)) (.int (i * j))
def bandO : OpO := int2 fun i j => some (.int (Builtin.bitAnd i j))
def borO : OpO := int2 fun i j => some (.int (Builtin.bitOr i j))
def bxorO : OpO := int2 fun i j => some (.int (Builtin.bitXor i j))
def ltO : OpO := int2 fun i j => some (.bool (decide (i < j)))
def leO : OpO := int2 fun i j => some (.bool (decide (i ≤ j)))
def gtO : OpO := int2 fun i j => some (.bool (decide (j < i)))
def geO : OpO := int2 fun i j => some (.bool (decide (j ≤ i)))
def min2O : OpO := int2 fun i j => some (.int (if j < i then j else i))
def max2O : OpO := int2 fun i j => some (.int (if j > i then j else i))
def addO : OpO := fun x y => match x, y with
  | .int i, .int j => some (.int (i + j)) | .tuple xs, .tuple ys => iff' (xs.length + ys.length ≤ 100000) (.tuple (xs ++ ys))
  | .list xs, .list ys => iff' (xs.length + ys.length ≤ 100000) (.list (xs ++ ys)) | _, _ => none
def eqO : OpO := fun x y => iff' (SeqAt.shaped x = true ∧ SeqAt.shaped y = true) (.bool (PyData.eqv x y))
def neO : OpO := fun x y => iff' (SeqAt.shaped x = true ∧ SeqAt.shaped y = true) (.bool (!PyData.eqv x y))
abbrev subB := opB subO
abbrev modB := opB modO
abbrev divB := opB divO
abbrev powB := opB powO
abbrev shlB := opB shlO
abbrev shrB := opB shrO
abbrev mulB := opB mulO
abbrev bandB := opB bandO
abbrev borB := opB borO
abbrev bxorB := opB bxorO
abbrev ltB := opB ltO
abbrev leB := opB leO
abbrev gtB := opB gtO
abbrev geB := opB geO
abbrev min2B := opB min2O
abbrev max2B := opB max2O
abbrev addB := opB addO
abbrev eqB := opB eqO
abbrev neB := opB neO
/-- an op's twin tells of it -/
def Tw2 (o : OpO) (m : OpW) : Prop := ∀ x y d (k : DP), o x y = some d → k d → m x y k
theorem Tw2.go {o : OpO} {m : OpW} (t : Tw2 o m) (h : opB o x y kb = true) (hk : ∀ a, kb a = true → k a) : m x y k := bndK (fun a e hh => t x y a k e hh) h hk
theorem t_int2 {f : Int → Int → Option PyData} {m : OpW} (h : ∀ i j d (k : DP), f i j = some d → k d → m (.int i) (.int j) k) : Tw2 (int2 f) m := fun x y d k e hk => by
  obtain ⟨i, j, rfl, rfl, e⟩ := int2_ok e
  exact h i j d k e hk
theorem t_some {f : Int → Int → PyData} {m : OpW} (h : ∀ i j (k : DP), k (f i j) → m (.int i) (.int j) k) : Tw2 (int2 fun i j => some (f i j)) m := t_int2 fun i j d k e hk => h i j k (by cases e; exact hk)
theorem t_iff {c : Int → Int → Prop} [∀ i j, Decidable (c i j)] {f : Int → Int → PyData} {m : OpW} (h : ∀ i j (k : DP), c i j → k (f i j) → m (.int i) (.int j) k) : Tw2 (int2 fun i j => iff' (c i j) (f i j)) m := t_int2 fun i j d k e hk => by
  obtain ⟨hc, rfl⟩ := iff'_ok e
  exact h i j k hc hk
theorem subT : Tw2 subO subW := t_some fun _ _ _ h => h
theorem modT : Tw2 modO modW := t_iff fun _ _ _ c h => ⟨c, h⟩
theorem divT : Tw2 divO divW := t_iff fun _ _ _ c h => ⟨c, h⟩
theorem powT : Tw2 powO powW := t_iff fun _ _ _ c h => ⟨c, h⟩
theorem shlT : Tw2 shlO shlW := t_iff fun _ _ _ c h => ⟨c, h⟩
theorem shrT : Tw2 shrO shrW := t_iff fun _ _ _ c h => ⟨c, h⟩
theorem mulT : Tw2 mulO mulW := t_iff fun _ _ _ c h => ⟨c, h⟩
theorem bandT : Tw2 bandO bandW := t_some fun _ _ _ h => h
theorem borT : Tw2 borO borW := t_some fun _ _ _ h => h
theorem bxorT : Tw2 bxorO bxorW := t_some fun _ _ _ h => h
theorem ltT : Tw2 ltO ltW := t_some fun _ _ _ h => h
theorem leT : Tw2 leO leW := t_some fun _ _ _ h => h
theorem gtT : Tw2 gtO gtW := t_some fun _ _ _ h => h
theorem geT : Tw2 geO geW := t_some fun _ _ _ h => h
theorem min2T : Tw2 min2O min2W := t_some fun _ _ _ h => h
theorem max2T : Tw2 max2O max2W := t_some fun _ _ _ h => h
theorem eqT : Tw2 eqO eqW := fun x y d k e hk => by obtain ⟨⟨h1, h2⟩, rfl⟩ := iff'_ok e; exact ⟨h1, h2, hk⟩
theorem neT : Tw2 neO neW := fun x y d k e hk => by obtain ⟨⟨h1, h2⟩, rfl⟩ := iff'_ok e; exact ⟨h1, h2, hk⟩
theorem addT : Tw2 addO addW := fun x y d k e hk => by
  unfold addO at e
  split at e
  · cases e; exact hk
  · obtain ⟨h, rfl⟩ := iff'_ok e; exact ⟨h, hk⟩
  · obtain ⟨h, rfl⟩ := iff'_ok e; exact ⟨h, hk⟩
  · cases e
theorem subK (h : subB x y kb = true) (hk : ∀ a, kb a = true → k a) : subW x y k := subT.go h hk
theorem modK (h : modB x y kb = true) (hk : ∀ a, kb a = true → k a) : modW x y k := modT.go h hk
theorem divK (h : divB x y kb = true) (hk : ∀ a, kb a = true → k a) : divW x y k := divT.go h hk
theorem powK (h : powB x y kb = true) (hk : ∀ a, kb a = true → k a) : powW x y k := powT.go h hk
theorem shlK (h : shlB x y kb = true) (hk : ∀ a, kb a = true → k a) : shlW x y k := shlT.go h hk
theorem shrK (h : shrB x y kb = true) (hk : ∀ a, kb a = true → k a) : shrW x y k := shrT.go h hk
theorem mulK (h : mulB x y kb = true) (hk : ∀ a, kb a = true → k a) : mulW x y k := mulT.go h hk
theorem bandK (h : bandB x y kb = true) (hk : ∀ a, kb a = true → k a) : bandW x y k := bandT.go h hk
theorem borK (h : borB x y kb = true) (hk : ∀ a, kb a = true → k a) : borW x y k := borT.go h hk
theorem bxorK (h : bxorB x y kb = true) (hk : ∀ a, kb a = true → k a) : bxorW x y k := bxorT.go h hk
theorem ltK (h : ltB x y kb = true) (hk : ∀ a, kb a = true → k a) : ltW x y k := ltT.go h hk
theorem leK (h : leB x y kb = true) (hk : ∀ a, kb a = true → k a) : leW x y k := leT.go h hk
theorem gtK (h : gtB x y kb = true) (hk : ∀ a, kb a = true → k a) : gtW x y k := gtT.go h hk
theorem geK (h : geB x y kb = true) (hk : ∀ a, kb a = true → k a) : geW x y k := geT.go h hk
theorem min2K (h : min2B x y kb = true) (hk : ∀ a, kb a = true → k a) : min2W x y k := min2T.go h hk
theorem max2K (h : max2B x y kb = true) (hk : ∀ a, kb a = true → k a) : max2W x y k := max2T.go h hk
theorem addK (h : addB x y kb = true) (hk : ∀ a, kb a = true → k a) : addW x y k := addT.go h hk
theorem eqK (h : eqB x y kb = true) (hk : ∀ a, kb a = true → k a) : eqW x y k := eqT.go h hk
theorem neK (h : neB x y kb = true) (hk : ∀ a, kb a = true → k a) : neW x y k := neT.go h hk
/-! one thing -/
abbrev isNB (x : PyData) (k : DB) : Bool := k (.bool (isNon x))
abbrev notNB (x : PyData) (k : DB) : Bool := k (.bool (!isNon x))
abbrev isIntB (x : PyData) (k : DB) : Bool := k (.bool (isIntD x || isBlD x))
abbrev isBlB (x : PyData) (k : DB) : Bool := k (.bool (isBlD x))
abbrev isStrB (x : PyData) (k : DB) : Bool := k (.bool (isStrD x))
abbrev isLstB (x : PyData) (k : DB) : Bool := k (.bool (isLstD x))
abbrev isTupB (x : PyData) (k : DB) : Bool := k (.bool (isTupD x))
abbrev isLTB (x : PyData) (k : DB) : Bool := k (.bool (isLstD x || isTupD x))
theorem isNK (h : isNB x kb = true) (hk : ∀ a, kb a = true → k a) : isNW x k := hk _ h
theorem notNK (h : notNB x kb = true) (hk : ∀ a, kb a = true → k a) : notNW x k := hk _ h
theorem isIntK (h : isIntB x kb = true) (hk : ∀ a, kb a = true → k a) : isIntW x k := hk _ h
theorem isBlK (h : isBlB x kb = true) (hk : ∀ a, kb a = true → k a) : isBlW x k := hk _ h
theorem isStrK (h : isStrB x kb = true) (hk : ∀ a, kb a = true → k a) : isStrW x k := hk _ h
theorem isLstK (h : isLstB x kb = true) (hk : ∀ a, kb a = true → k a) : isLstW x k := hk _ h
theorem isTupK (h : isTupB x kb = true) (hk : ∀ a, kb a = true → k a) : isTupW x k := hk _ h
theorem isLTK (h : isLTB x kb = true) (hk : ∀ a, kb a = true → k a) : isLTW x k := hk _ h
def negO : PyData → Option PyData | .int i => some (.int (-i)) | _ => none
def notO : PyData → Option PyData | .bool b => some (.bool (!b)) | _ => none
def cintO : PyData → Option PyData | .int i => some (.int i) | .bool b => some (.int (if b then 1 else 0)) | _ => none
def absO : PyData → Option PyData | .int i => some (.int (if i < 0 then -i else i)) | _ => none
abbrev negB (x : PyData) (k : DB) : Bool := bnd (negO x) k
abbrev notB (x : PyData) (k : DB) : Bool := bnd (notO x) k
abbrev cintB (x : PyData) (k : DB) : Bool := bnd (cintO x) k
abbrev absB (x : PyData) (k : DB) : Bool := bnd (absO x) k
theorem negK (h : negB x kb = true) (hk : ∀ a, kb a = true → k a) : negW x k := bndK (fun a e hh => by cases x <;> cases e; exact hh) h hk
theorem notK (h : notB x kb = true) (hk : ∀ a, kb a = true → k a) : notW x k := bndK (fun a e hh => by cases x <;> cases e; exact hh) h hk
theorem cintK (h : cintB x kb = true) (hk : ∀ a, kb a = true → k a) : cintW x k := bndK (fun a e hh => by cases x <;> cases e <;> exact hh) h hk
theorem absK (h : absB x kb = true) (hk : ∀ a, kb a = true → k a) : absW x k := bndK (fun a e hh => by cases x <;> cases e; exact hh) h hk
/-! rows -/
def inO (x : PyData) (ys : List PyData) : Option PyData := iff' (flatD x = true ∧ ys.all flatD = true) (.bool (ys.any fun z => PyData.eqv z x))
def niO (x : PyData) (ys : List PyData) : Option PyData := iff' (flatD x = true ∧ ys.all flatD = true) (.bool (!ys.any fun z => PyData.eqv z x))
def inLO (x y : PyData) : Option PyData := match y with | .list ds => iff' (SeqAt.shaped x = true ∧ SeqAt.shaped (.list ds) = true) (.bool (ds.any fun z => PyData.eqv z x)) | _ => none
def niLO (x y : PyData) : Option PyData := match y with | .list ds => iff' (SeqAt.shaped x = true ∧ SeqAt.shaped (.list ds) = true) (.bool (!ds.any fun z => PyData.eqv z x)) | _ => none
abbrev inB (x : PyData) (ys : List PyData) (k : DB) : Bool := bnd (inO x ys) k
abbrev niB (x : PyData) (ys : List PyData) (k : DB) : Bool := bnd (niO x ys) k
abbrev inLB (x y : PyData) (k : DB) : Bool := bnd (inLO x y) k
abbrev niLB (x y : PyData) (k : DB) : Bool := bnd (niLO x y) k
theorem inK (h : inB x ys kb = true) (hk : ∀ a, kb a = true → k a) : inW x ys k := bndK (fun a e hh => by obtain ⟨⟨h1, h2⟩, rfl⟩ := iff'_ok e; exact ⟨h1, h2, hh⟩) h hk
theorem niK (h : niB x ys kb = true) (hk : ∀ a, kb a = true → k a) : niW x ys k := bndK (fun a e hh => by obtain ⟨⟨h1, h2⟩, rfl⟩ := iff'_ok e; exact ⟨h1, h2, hh⟩) h hk
theorem inLK (h : inLB x y kb = true) (hk : ∀ a, kb a = true → k a) : inLW x y k := bndK (fun a e hh => by
  cases y <;> first | (obtain ⟨⟨h1, h2⟩, rfl⟩ := iff'_ok e; exact ⟨h1, h2, hh⟩) | cases e) h hk
theorem niLK (h : niLB x y kb = true) (hk : ∀ a, kb a = true → k a) : niLW x y k := bndK (fun a e hh => by
  cases y <;> first | (obtain ⟨⟨h1, h2⟩, rfl⟩ := iff'_ok e; exact ⟨h1, h2, hh⟩) | cases e) h hk
def ixO (xs : List PyData) (i : PyData) : Option PyData := match i with | .int n => atI xs n | _ => none
abbrev ixB (xs : List PyData) (i : PyData) (k : DB) : Bool := bnd (ixO xs i) k
theorem ixK (h : ixB xs y kb = true) (hk : ∀ a, kb a = true → k a) : ixW xs y k := bndK (fun a e hh => by
  cases y <;> first | exact ⟨a, e, hh⟩ | cases e) h hk
abbrev lenB (xs : List PyData) (k : DB) : Bool := k (.int xs.length)
theorem lenK (h : lenB xs kb = true) (hk : ∀ a, kb a = true → k a) : lenW xs k := hk _ h
def intsO : List PyData → Option (List Int) | [] => some [] | .int i :: r => (intsO r).map (i :: ·) | _ :: _ => none
theorem intsO_ok : ∀ {xs : List PyData} {ns : List Int}, intsO xs = some ns → xs = ns.map .int
  | [], ns, e => by cases e; rfl
  | x :: r, ns, e => by
    cases x with
    | int i =>
      have e' : (intsO r).map (i :: ·) = some ns := e
      cases q : intsO r with
      | none => rw [q] at e'; cases e'
      | some ms => rw [q] at e'; cases e'; rw [intsO_ok q]; rfl
    | _ => cases e
def blsO : List PyData → Option (List Bool) | [] => some [] | .bool i :: r => (blsO r).map (i :: ·) | _ :: _ => none
theorem blsO_ok : ∀ {xs : List PyData} {ns : List Bool}, blsO xs = some ns → xs = ns.map .bool
  | [], ns, e => by cases e; rfl
  | x :: r, ns, e => by
    cases x with
    | bool i =>
      have e' : (blsO r).map (i :: ·) = some ns := e
      cases q : blsO r with
      | none => rw [q] at e'; cases e'
      | some ms => rw [q] at e'; cases e'; rw [blsO_ok q]; rfl
    | _ => cases e
abbrev sumB (xs : List PyData) (k : DB) : Bool := bnd (intsO xs) fun ns => k (.int ns.sum)
abbrev allB (xs : List PyData) (k : DB) : Bool := bnd (blsO xs) fun bs => k (.bool (bs.all id))
abbrev anyB (xs : List PyData) (k : DB) : Bool := bnd (blsO xs) fun bs => k (.bool (bs.any id))
theorem sumK (h : sumB xs kb = true) (hk : ∀ a, kb a = true → k a) : sumW xs k := bndK (k := fun ns : List Int => k (.int ns.sum)) (fun a e hh => ⟨a, intsO_ok e, hh⟩) h fun a => hk _
theorem allK (h : allB xs kb = true) (hk : ∀ a, kb a = true → k a) : allW xs k := bndK (k := fun ns : List Bool => k (.bool (ns.all id))) (fun a e hh => ⟨a, blsO_ok e, hh⟩) h fun a => hk _
theorem anyK (h : anyB xs kb = true) (hk : ∀ a, kb a = true → k a) : anyW xs k := bndK (k := fun ns : List Bool => k (.bool (ns.any id))) (fun a e hh => ⟨a, blsO_ok e, hh⟩) h fun a => hk _
def leastI : List Int → Option Int | [] => none | x :: r => some (r.foldl (fun a b => if b < a then b else a) x)
def mostI : List Int → Option Int | [] => none | x :: r => some (r.foldl (fun a b => if a < b then b else a) x)
abbrev minB (xs : List PyData) (k : DB) : Bool := bnd (intsO xs) fun ns => bnd (leastI ns) fun m => decide (m ∈ ns ∧ ∀ j ∈ ns, m ≤ j) && k (.int m)
abbrev maxB (xs : List PyData) (k : DB) : Bool := bnd (intsO xs) fun ns => bnd (mostI ns) fun m => decide (m ∈ ns ∧ ∀ j ∈ ns, j ≤ m) && k (.int m)
theorem minK (h : minB xs kb = true) (hk : ∀ a, kb a = true → k a) : minW xs k := by
  refine bndK (k := fun ns : List Int => ∃ m, m ∈ ns ∧ (∀ j ∈ ns, m ≤ j) ∧ k (.int m)) (fun ns e hh => ?_) h fun ns h2 => bndK (k := fun m : Int => (m ∈ ns ∧ ∀ j ∈ ns, m ≤ j) ∧ k (.int m)) (fun m _ hh => ⟨m, hh.1.1, hh.1.2, hh.2⟩) h2 fun m h3 => ?_
  · obtain ⟨m, h1, h2, h3⟩ := hh; exact ⟨ns, m, intsO_ok e, h1, h2, h3⟩
  · rw [Bool.and_eq_true] at h3; exact ⟨of_decide_eq_true h3.1, hk _ h3.2⟩
theorem maxK (h : maxB xs kb = true) (hk : ∀ a, kb a = true → k a) : maxW xs k := by
  refine bndK (k := fun ns : List Int => ∃ m, m ∈ ns ∧ (∀ j ∈ ns, j ≤ m) ∧ k (.int m)) (fun ns e hh => ?_) h fun ns h2 => bndK (k := fun m : Int => (m ∈ ns ∧ ∀ j ∈ ns, j ≤ m) ∧ k (.int m)) (fun m _ hh => ⟨m, hh.1.1, hh.1.2, hh.2⟩) h2 fun m h3 => ?_
  · obtain ⟨m, h1, h2, h3⟩ := hh; exact ⟨ns, m, intsO_ok e, h1, h2, h3⟩
  · rw [Bool.and_eq_true] at h3; exact ⟨of_decide_eq_true h3.1, hk _ h3.2⟩
abbrev letB {α : Type} (a : α) (k : α → Bool) : Bool := k a
theorem letK {α : Type} {a : α} {kb : α → Bool} {k : α → Prop} (h : letB a kb = true) (hk : ∀ a, kb a = true → k a) : letW a k := hk _ h
def zlim (n : Nat) : Bool := decide (n ≤ 100000)
abbrev dispTB (xs : List PyData) (k : DB) : Bool := zlim xs.length && k (.tuple xs)
abbrev dispLB (xs : List PyData) (k : List PyData → Bool) : Bool := zlim xs.length && k xs
theorem dispTK (h : dispTB xs kb = true) (hk : ∀ a, kb a = true → k a) : dispT xs k := by
  rw [Bool.and_eq_true] at h; exact ⟨of_decide_eq_true h.1, hk _ h.2⟩
theorem dispLK (h : dispLB xs kbl = true) (hk : ∀ a, kbl a = true → kl a) : dispL xs kl := by
  rw [Bool.and_eq_true] at h; exact ⟨of_decide_eq_true h.1, hk _ h.2⟩
abbrev fzB (xs : List PyData) (k : DB) : Bool := k (.list xs)
theorem fzK (h : fzB xs kb = true) (hk : ∀ a, kb a = true → k a) : fzW xs k := hk _ h
abbrev tupB (xs : List PyData) (k : DB) : Bool := k (.tuple xs)
theorem tupK (h : tupB xs kb = true) (hk : ∀ a, kb a = true → k a) : tupW xs k := hk _ h
abbrev catB (xs ys : List PyData) (k : List PyData → Bool) : Bool := zlim (xs.length + ys.length) && k (xs ++ ys)
theorem catK (h : catB xs ys kbl = true) (hk : ∀ a, kbl a = true → kl a) : catW xs ys kl := by
  rw [Bool.and_eq_true] at h; exact ⟨of_decide_eq_true h.1, hk _ h.2⟩
abbrev extB (xs ys : List PyData) (k : List PyData → Bool) : Bool := zlim (xs.length + ys.length) && k (xs ++ ys)
theorem extK (h : extB xs ys kbl = true) (hk : ∀ a, kbl a = true → kl a) : extW xs ys kl := by
  rw [Bool.and_eq_true] at h; exact ⟨of_decide_eq_true h.1, hk _ h.2⟩
abbrev cutB (xs : List PyData) (lo hi : Option Int) (k : List PyData → Bool) : Bool := k (cutD xs lo hi)
theorem cutK {lo hi : Option Int} (h : cutB xs lo hi kbl = true) (hk : ∀ a, kbl a = true → kl a) : cutW xs lo hi kl := hk _ h
def slDO (d : PyData) (lo hi : Option Int) : Option PyData := match d with | .tuple xs => some (.tuple (cutD xs lo hi)) | .list xs => some (.list (cutD xs lo hi)) | _ => none
abbrev slDB (d : PyData) (lo hi : Option Int) (k : DB) : Bool := bnd (slDO d lo hi) k
theorem slDK {lo hi : Option Int} (h : slDB x lo hi kb = true) (hk : ∀ a, kb a = true → k a) : slDW x lo hi k := bndK (fun a e hh => by cases x <;> cases e <;> exact hh) h hk
def augO (f : Int → Int → Int) (x y : PyData) : Option PyData := match x, y with | .int a, .int b => some (.int (f a b)) | _, _ => none
abbrev augB (f : Int → Int → Int) (x y : PyData) (k : DB) : Bool := bnd (augO f x y) k
theorem augK {f : Int → Int → Int} (h : augB f x y kb = true) (hk : ∀ a, kb a = true → k a) : augW f x y k := bndK (fun a e hh => by
  unfold augO at e
  split at e
  · cases e; exact hh
  · cases e) h hk
abbrev appB (xs : List PyData) (d : PyData) (k : List PyData → Bool) : Bool := decide (xs.length < 100000) && k (xs ++ [d])
theorem appK (h : appB xs x kbl = true) (hk : ∀ a, kbl a = true → kl a) : appW xs x kl := by
  rw [Bool.and_eq_true] at h; exact ⟨of_decide_eq_true h.1, hk _ h.2⟩
def setO (xs : List PyData) (i d : PyData) : Option (List PyData) := match i with | .int n => (ixN xs.length n).map fun j => xs.set j d | _ => none
abbrev setB (xs : List PyData) (i d : PyData) (k : List PyData → Bool) : Bool := bnd (setO xs i d) k
theorem setK (h : setB xs x y kbl = true) (hk : ∀ a, kbl a = true → kl a) : setW xs x y kl := bndK (fun a e hh => by
  cases x with
  | int n =>
    have e' : (ixN xs.length n).map (fun j => xs.set j y) = some a := e
    cases q : ixN xs.length n with
    | none => rw [q] at e'; cases e'
    | some j => rw [q] at e'; cases e'; exact ⟨j, q, hh⟩
  | _ => cases e) h hk
def mulLO (xs : List PyData) (y : PyData) : Option (List PyData) := match y with | .int j => iff' (0 ≤ j ∧ j ≤ 1000 ∧ xs.length ≤ 100) (List.replicate j.toNat xs).flatten | _ => none
abbrev mulLB (xs : List PyData) (y : PyData) (k : List PyData → Bool) : Bool := bnd (mulLO xs y) k
theorem mulLK (h : mulLB xs y kbl = true) (hk : ∀ a, kbl a = true → kl a) : mulLW xs y kl := bndK (fun a e hh => by
  cases y <;> first | (obtain ⟨⟨h1, h2, h3⟩, rfl⟩ := iff'_ok e; exact ⟨h1, h2, h3, hh⟩) | cases e) h hk
/-! ranges -/
def rngO (x : PyData) : Option (List PyData) := match x with | .int n => iff' (-100000 ≤ n ∧ n ≤ 100000) (rgI n) | _ => none
def rgLO (x : PyData) : Option (List PyData) := match x with | .int n => iff' (0 ≤ n ∧ n ≤ 100000) (rgI n) | _ => none
def rng2O (x y : PyData) : Option (List PyData) := match x, y with | .int i, .int j => iff' (-100000 ≤ i ∧ i ≤ 100000 ∧ j ≤ 100000 ∧ -100000 ≤ j) (rgIJ i j) | _, _ => none
def rgL2O (x y : PyData) : Option (List PyData) := match x, y with | .int i, .int j => iff' (0 ≤ i ∧ i ≤ 100000 ∧ 0 ≤ j ∧ j ≤ 100000) (rgIJ i j) | _, _ => none
abbrev rngB (x : PyData) (k : List PyData → Bool) : Bool := bnd (rngO x) k
abbrev rgLB (x : PyData) (k : List PyData → Bool) : Bool := bnd (rgLO x) k
abbrev rng2B (x y : PyData) (k : List PyData → Bool) : Bool := bnd (rng2O x y) k
abbrev rgL2B (x y : PyData) (k : List PyData → Bool) : Bool := bnd (rgL2O x y) k
theorem rngK (h : rngB x kbl = true) (hk : ∀ a, kbl a = true → kl a) : rngW x kl := bndK (fun a e hh => by
  cases x <;> first | (obtain ⟨⟨h1, h2⟩, rfl⟩ := iff'_ok e; exact ⟨h1, h2, hh⟩) | cases e) h hk
theorem rgLK (h : rgLB x kbl = true) (hk : ∀ a, kbl a = true → kl a) : rgLW x kl := bndK (fun a e hh => by
  cases x <;> first | (obtain ⟨⟨h1, h2⟩, rfl⟩ := iff'_ok e; exact ⟨h1, h2, hh⟩) | cases e) h hk
theorem rng2K (h : rng2B x y kbl = true) (hk : ∀ a, kbl a = true → kl a) : rng2W x y kl := bndK (fun a e hh => by
  unfold rng2O at e
  split at e
  · obtain ⟨⟨h1, h2, h3, h4⟩, rfl⟩ := iff'_ok e; exact ⟨h1, h2, h3, h4, hh⟩
  · cases e) h hk
theorem rgL2K (h : rgL2B x y kbl = true) (hk : ∀ a, kbl a = true → kl a) : rgL2W x y kl := bndK (fun a e hh => by
  unfold rgL2O at e
  split at e
  · obtain ⟨⟨h1, h2, h3, h4⟩, rfl⟩ := iff'_ok e; exact ⟨h1, h2, h3, h4, hh⟩
  · cases e) h hk
/-! names for what comes in twos and threes -/
def un2O (x : PyData) : Option (PyData × PyData) := match x with | .tuple [a, b] => some (a, b) | _ => none
def un3O (x : PyData) : Option (PyData × PyData × PyData) := match x with | .tuple [a, b, c] => some (a, b, c) | _ => none
abbrev un2B (x : PyData) (k : PyData → PyData → Bool) : Bool := bnd (un2O x) fun p => k p.1 p.2
abbrev un3B (x : PyData) (k : PyData → PyData → PyData → Bool) : Bool := bnd (un3O x) fun p => k p.1 p.2.1 p.2.2
theorem un2K {kb : PyData → PyData → Bool} {k : PyData → PyData → Prop} (h : un2B x kb = true) (hk : ∀ a b, kb a b = true → k a b) : un2W x k := bndK (k := fun p : PyData × PyData => k p.1 p.2) (fun a e hh => by
  unfold un2O at e
  split at e
  · cases e; exact hh
  · cases e) h fun a => hk _ _
theorem un3K {kb : PyData → PyData → PyData → Bool} {k : PyData → PyData → PyData → Prop} (h : un3B x kb = true) (hk : ∀ a b c, kb a b c = true → k a b c) : un3W x k := bndK (k := fun p : PyData × PyData × PyData => k p.1 p.2.1 p.2.2) (fun a e hh => by
  unfold un3O at e
  split at e
  · cases e; exact hh
  · cases e) h fun a => hk _ _ _
/-! tests, joins -/
def iteB (b p q : Bool) : Bool := match b with | true => p | false => q
theorem iteK {b pb qb : Bool} {p q : Prop} (h : iteB b pb qb = true) (h1 : pb = true → p) (h2 : qb = true → q) : iteW b p q := by
  cases b
  · exact h2 h
  · exact h1 h
abbrev joinB {κ : Type} (f : κ → Bool) (k : κ) : Bool := f k
theorem joinK0 {fb : Bool → Bool} {f : Prop → Prop} {kb : Bool} {k : Prop} (h : joinB fb kb = true) (hf : ∀ (kb' : Bool) (k' : Prop), (kb' = true → k') → fb kb' = true → f k') (hk : kb = true → k) : joinW f k := hf _ _ hk h
theorem joinK1 {α : Type} {fb : (α → Bool) → Bool} {f : (α → Prop) → Prop} {kb : α → Bool} {k : α → Prop} (h : joinB fb kb = true) (hf : ∀ (kb' : α → Bool) (k' : α → Prop), (∀ a, kb' a = true → k' a) → fb kb' = true → f k') (hk : ∀ a, kb a = true → k a) : joinW f k := hf _ _ hk h
theorem joinK2 {α β : Type} {fb : (α → β → Bool) → Bool} {f : (α → β → Prop) → Prop} {kb : α → β → Bool} {k : α → β → Prop} (h : joinB fb kb = true) (hf : ∀ (kb' : α → β → Bool) (k' : α → β → Prop), (∀ a b, kb' a b = true → k' a b) → fb kb' = true → f k') (hk : ∀ a b, kb a b = true → k a b) : joinW f k := hf _ _ hk h
theorem joinK3 {α β γ : Type} {fb : (α → β → γ → Bool) → Bool} {f : (α → β → γ → Prop) → Prop} {kb : α → β → γ → Bool} {k : α → β → γ → Prop} (h : joinB fb kb = true) (hf : ∀ (kb' : α → β → γ → Bool) (k' : α → β → γ → Prop), (∀ a b c, kb' a b c = true → k' a b c) → fb kb' = true → f k') (hk : ∀ a b c, kb a b c = true → k a b c) : joinW f k := hf _ _ hk h
abbrev BB := (Bool → Bool) → Bool
def andB (t u : BB) (k : Bool → Bool) : Bool := t fun b => iteB b (u k) (k false)
def orB (t u : BB) (k : Bool → Bool) : Bool := t fun b => iteB b (k true) (u k)
abbrev RelB (tb : BB) (t : (Bool → Prop) → Prop) : Prop := ∀ (kb : Bool → Bool) (k : Bool → Prop), (∀ b, kb b = true → k b) → tb kb = true → t k
theorem andK {tb ub : BB} {t u : (Bool → Prop) → Prop} {kb : Bool → Bool} {k : Bool → Prop} (h : andB tb ub kb = true) (ht : RelB tb t) (hu : RelB ub u) (hk : ∀ b, kb b = true → k b) : andW t u k := ht _ _ (fun b hb => iteK hb (hu _ _ hk) (hk _)) h
theorem orK {tb ub : BB} {t u : (Bool → Prop) → Prop} {kb : Bool → Bool} {k : Bool → Prop} (h : orB tb ub kb = true) (ht : RelB tb t) (hu : RelB ub u) (hk : ∀ b, kb b = true → k b) : orW t u k := ht _ _ (fun b hb => iteK hb (hk _) (hu _ _ hk)) h
abbrev BV := DB → Bool
abbrev RelV (tb : BV) (t : DP → Prop) : Prop := ∀ (kb : DB) (k : DP), (∀ b, kb b = true → k b) → tb kb = true → t k
def andVB (t u : BV) (k : DB) : Bool := t fun x => boolB x fun b => iteB b (u k) (k (.bool false))
def orVB (t u : BV) (k : DB) : Bool := t fun x => boolB x fun b => iteB b (k (.bool true)) (u k)
theorem andVK {tb ub : BV} {t u : DP → Prop} (h : andVB tb ub kb = true) (ht : RelV tb t) (hu : RelV ub u) (hk : ∀ b, kb b = true → k b) : andVW t u k := ht _ _ (fun x hx => boolK hx fun b hb => iteK hb (hu _ _ hk) (hk _)) h
theorem orVK {tb ub : BV} {t u : DP → Prop} (h : orVB tb ub kb = true) (ht : RelV tb t) (hu : RelV ub u) (hk : ∀ b, kb b = true → k b) : orVW t u k := ht _ _ (fun x hx => boolK hx fun b hb => iteK hb (hk _) (hu _ _ hk)) h
def chainB (o o' : PyData → PyData → DB → Bool) (x y : PyData) (c : BV) (k : DB) : Bool := o x y fun r => boolB r fun b => iteB b (c fun z => o' y z k) (k (.bool false))
abbrev RelO (o : PyData → PyData → DB → Bool) (m : OpW) : Prop := ∀ x y (kb : DB) (k : DP), o x y kb = true → (∀ b, kb b = true → k b) → m x y k
theorem chainK {ob ob' : PyData → PyData → DB → Bool} {o o' : OpW} (r : RelO ob o) (r' : RelO ob' o') {cb : BV} {c : DP → Prop} (h : chainB ob ob' x y cb kb = true) (hc : RelV cb c) (hk : ∀ b, kb b = true → k b) : chainW o o' x y c k :=
  r _ _ _ _ h fun v hv => boolK hv fun b hb => iteK hb (hc _ _ fun z hz => r' _ _ _ _ hz hk) (hk _)
/-! comprehensions, loops -/
def lcGoB (body : PyData → DB → Bool → Bool) : List PyData → (List PyData → Bool) → Bool
  | [], k => k []
  | x :: xs, k => body x (fun d => lcGoB body xs fun l => k (d :: l)) (lcGoB body xs k)
abbrev RelC (bb : PyData → DB → Bool → Bool) (body : PyData → DP → Prop → Prop) : Prop := ∀ x (Yb : DB) (Nb : Bool) (Y : DP) (N : Prop), (∀ d, Yb d = true → Y d) → (Nb = true → N) → bb x Yb Nb = true → body x Y N
theorem lcGoK {bb : PyData → DB → Bool → Bool} {body : PyData → DP → Prop → Prop} (hb : RelC bb body) : ∀ {xs : List PyData} {kb : List PyData → Bool} {k : List PyData → Prop}, (∀ l, kb l = true → k l) → lcGoB bb xs kb = true → lcGo body xs k
  | [], _, _, hk, h => hk _ h
  | x :: xs, kb, k, hk, h => hb x _ _ _ _ (fun d hd => lcGoK hb (fun l hl => hk _ hl) hd) (fun hn => lcGoK hb hk hn) h
def lcB (items : List PyData) (body : PyData → DB → Bool → Bool) (k : List PyData → Bool) : Bool := zlim items.length && lcGoB body items k
def lcMB (items : List PyData) (body : PyData → DB → Bool) (k : List PyData → Bool) : Bool := lcB items (fun x Y _ => body x Y) k
theorem lcK {bb : PyData → DB → Bool → Bool} {body : PyData → DP → Prop → Prop} (h : lcB xs bb kbl = true) (hb : RelC bb body) (hk : ∀ l, kbl l = true → kl l) : lcW xs body kl := by
  unfold lcB at h
  rw [Bool.and_eq_true] at h
  exact ⟨of_decide_eq_true h.1, lcGoK hb hk h.2⟩
theorem lcMK {bb : PyData → DB → Bool} {body : PyData → DP → Prop} (h : lcMB xs bb kbl = true) (hb : ∀ x (Yb : DB) (Y : DP), (∀ d, Yb d = true → Y d) → bb x Yb = true → body x Y) (hk : ∀ l, kbl l = true → kl l) : lcMW xs body kl :=
  lcK (bb := fun x Y _ => bb x Y) h (fun x Yb Nb Y N hY _ => hb x Yb Y hY) hk
abbrev In2B := List PyData → (PyData → DB → Bool → Bool) → Bool
def lc2GoB (body : PyData → In2B → Bool → Bool) : List PyData → (List PyData → Bool) → Bool
  | [], k => k []
  | x :: xs, k => body x (fun ys b2 => decide (ys.length ≤ 1000) && lcGoB b2 ys fun l => lc2GoB body xs fun l' => k (l ++ l')) (lc2GoB body xs k)
abbrev RelC2 (bb : PyData → In2B → Bool → Bool) (body : PyData → In2 → Prop → Prop) : Prop := ∀ x (Yb : In2B) (Nb : Bool) (Y : In2) (N : Prop), (∀ ys b2b b2, RelC b2b b2 → Yb ys b2b = true → Y ys b2) → (Nb = true → N) → bb x Yb Nb = true → body x Y N
theorem lc2GoK {bb : PyData → In2B → Bool → Bool} {body : PyData → In2 → Prop → Prop} (hb : RelC2 bb body) : ∀ {xs : List PyData} {kb : List PyData → Bool} {k : List PyData → Prop}, (∀ l, kb l = true → k l) → lc2GoB bb xs kb = true → lc2Go body xs k
  | [], _, _, hk, h => hk _ h
  | x :: xs, kb, k, hk, h => hb x _ _ _ _ (fun ys b2b b2 r hy => by
      rw [Bool.and_eq_true] at hy
      exact ⟨of_decide_eq_true hy.1, lcGoK r (fun l hl => lc2GoK hb (fun l' hl' => hk _ hl') hl) hy.2⟩) (fun hn => lc2GoK hb hk hn) h
def lc2B (items : List PyData) (body : PyData → In2B → Bool → Bool) (k : List PyData → Bool) : Bool := decide (items.length ≤ 100) && lc2GoB body items k
theorem lc2K {bb : PyData → In2B → Bool → Bool} {body : PyData → In2 → Prop → Prop} (h : lc2B xs bb kbl = true) (hb : RelC2 bb body) (hk : ∀ l, kbl l = true → kl l) : lc2W xs body kl := by
  unfold lc2B at h
  rw [Bool.and_eq_true] at h
  exact ⟨of_decide_eq_true h.1, lc2GoK hb hk h.2⟩
def forB {σ : Type} (body : PyData → σ → (σ → Bool) → (σ → Bool) → Bool) (done : σ → Bool) : List PyData → σ → Bool
  | [], s => done s
  | x :: xs, s => body x s (fun s' => forB body done xs s') done
theorem forK {σ : Type} {bb : PyData → σ → (σ → Bool) → (σ → Bool) → Bool} {body : PyData → σ → (σ → Prop) → (σ → Prop) → Prop} {db : σ → Bool} {done : σ → Prop} : ∀ {xs : List PyData} {s : σ}, forB bb db xs s = true →
    (∀ x s (nb kb : σ → Bool) (nx bk : σ → Prop), (∀ s', nb s' = true → nx s') → (∀ s', kb s' = true → bk s') → bb x s nb kb = true → body x s nx bk) → (∀ s, db s = true → done s) → forW body done xs s
  | [], _, h, _, hd => hd _ h
  | x :: xs, s, h, hb, hd => hb x s _ _ _ _ (fun s' h' => forK h' hb hd) hd h
def runB {σ : Type} (cond : σ → (Bool → Bool) → Bool) (body : σ → (σ → Bool) → (σ → Bool) → Bool) (done : σ → Bool) : Nat → σ → Bool
  | 0, _ => false
  | n + 1, s => cond s fun b => iteB b (body s (runB cond body done n) done) (done s)
def whileB {σ : Type} (s0 : σ) (cond : σ → (Bool → Bool) → Bool) (body : σ → (σ → Bool) → (σ → Bool) → Bool) (done : σ → Bool) : Bool := runB cond body done 200 s0
theorem least_of {p : Nat → Prop} (h : ∃ n, p n) : ∃ n, p n ∧ ∀ m, p m → n ≤ m := by
  obtain ⟨n, hn⟩ := h
  induction n using Nat.strongRecOn with
  | ind n ih =>
    by_cases hx : ∃ m, m < n ∧ p m
    · obtain ⟨m, h1, h2⟩ := hx; exact ih m h1 h2
    · exact ⟨n, hn, fun m hm => Nat.le_of_not_lt fun hl => hx ⟨m, hl, hm⟩⟩
theorem whileK {σ : Type} {s0 : σ} {cb : σ → (Bool → Bool) → Bool} {bb : σ → (σ → Bool) → (σ → Bool) → Bool} {db : σ → Bool} {cond : σ → (Bool → Prop) → Prop} {body : σ → (σ → Prop) → (σ → Prop) → Prop} {done : σ → Prop} (h : whileB s0 cb bb db = true)
    (hc : ∀ s (kb : Bool → Bool) (k : Bool → Prop), (∀ b, kb b = true → k b) → cb s kb = true → cond s k)
    (hb : ∀ s (nb kb : σ → Bool) (nx bk : σ → Prop), (∀ s', nb s' = true → nx s') → (∀ s', kb s' = true → bk s') → bb s nb kb = true → body s nx bk) (hd : ∀ s, db s = true → done s) : whileW s0 cond body done := by
  classical
  let I : σ → Prop := fun s => ∃ n, runB cb bb db n s = true
  let μ : σ → Nat := fun s => if hI : I s then Classical.choose (least_of hI) else 0
  have le : ∀ {n : Nat} {s : σ}, runB cb bb db n s = true → μ s ≤ n := fun {n s} hr => by
    have hI : I s := ⟨n, hr⟩
    show (if hI : I s then Classical.choose (least_of hI) else 0) ≤ n
    rw [dif_pos hI]; exact (Classical.choose_spec (least_of hI)).2 _ hr
  refine ⟨I, μ, ⟨200, h⟩, fun s hI => ?_⟩
  have hm : μ s = Classical.choose (least_of hI) := dif_pos hI
  have hr := (Classical.choose_spec (least_of hI)).1
  rw [← hm] at hr
  cases hn : μ s with
  | zero => rw [hn] at hr; cases hr
  | succ n =>
    rw [hn] at hr
    refine hc s _ _ (fun b hb1 => ?_) hr
    exact iteK hb1 (fun h2 => hb s _ _ _ _ (fun s' h3 => ⟨⟨n, h3⟩, by have := le h3; omega⟩) hd h2) (hd s)
/-! what errors are -/
abbrev catchB (xn : List Str) (n J : Str) (p q : Bool) : Bool := xn.contains n && xn.contains J && iteB (subX n J) p q
theorem catchK {xn : List Str} {n J : Str} {pb qb : Bool} {p q : Prop} (h : catchB xn n J pb qb = true) (h1 : pb = true → p) (h2 : qb = true → q) : catchW xn n J p q := by
  rw [Bool.and_eq_true, Bool.and_eq_true] at h
  exact ⟨List.contains_iff_mem.mp h.1.1, List.contains_iff_mem.mp h.1.2, iteK h.2 h1 h2⟩
abbrev isXB (xn : List Str) (n X : Str) (k : DB) : Bool := xn.contains n && xn.contains X && k (.bool (subX n X))
theorem isXK {xn : List Str} {n X : Str} (h : isXB xn n X kb = true) (hk : ∀ a, kb a = true → k a) : isXW xn n X k := by
  rw [Bool.and_eq_true, Bool.and_eq_true] at h
  exact ⟨List.contains_iff_mem.mp h.1.1, List.contains_iff_mem.mp h.1.2, hk _ h.2⟩
abbrev isVB (xn : List Str) (n : Str) (k : DB) : Bool := xn.contains n && k (.bool true)
theorem isVK {xn : List Str} {n : Str} (h : isVB xn n kb = true) (hk : ∀ a, kb a = true → k a) : isVW xn n k := by
  rw [Bool.and_eq_true] at h
  exact ⟨List.contains_iff_mem.mp h.1, hk _ h.2⟩
abbrev nofB {α : Type} (f : Option α) (p : Bool) : Bool := f.isNone && p
theorem nofK {α : Type} {f : Option α} {pb : Bool} {p : Prop} (h : nofB f pb = true) (hk : pb = true → p) : f = none ∧ p := by
  rw [Bool.and_eq_true] at h
  exact ⟨Option.isNone_iff_eq_none.mp h.1, hk h.2⟩
abbrev noLB (d : PyData) (k : DB) : Bool := noList d && k d
theorem noLK (h : noLB x kb = true) (hk : ∀ a, kb a = true → k a) : noLW x k := by
  rw [Bool.and_eq_true] at h; exact ⟨h.1, hk _ h.2⟩
abbrev noLsB (xs : List PyData) (k : List PyData → Bool) : Bool := noLists xs && k xs
theorem noLsK (h : noLsB xs kbl = true) (hk : ∀ a, kbl a = true → kl a) : noLsW xs kl := by
  rw [Bool.and_eq_true] at h; exact ⟨h.1, hk _ h.2⟩
/-! where a thing stands -/
def idxGo (d : PyData) : List PyData → Nat → Option Nat | [], _ => none | x :: r, j => if PyData.eqv x d = true then some j else idxGo d r (j + 1)
theorem idxGo_ok {d : PyData} : ∀ {r : List PyData} {j i : Nat}, idxGo d r j = some i → ∃ m z, i = j + m ∧ r[m]? = some z ∧ PyData.eqv z d = true ∧ ∀ n z', n < m → r[n]? = some z' → PyData.eqv z' d = false
  | [], _, _, e => by cases e
  | x :: r, j, i, e => by
    unfold idxGo at e
    split at e
    · rename_i hx
      cases e
      exact ⟨0, x, rfl, rfl, hx, fun n z' hn => absurd hn (Nat.not_lt_zero _)⟩
    · rename_i hx
      obtain ⟨m, z, h1, h2, h3, h4⟩ := idxGo_ok e
      refine ⟨m + 1, z, by omega, h2, h3, fun n z' hn hz => ?_⟩
      cases n with
      | zero => cases hz; exact Bool.eq_false_iff.mpr hx
      | succ n => exact h4 n z' (by omega) hz
def idxO (xs : List PyData) (d : PyData) : Option PyData := if SeqAt.shaped (.list xs) = true ∧ SeqAt.shaped d = true then (idxGo d xs 0).map fun j : Nat => .int j else none
abbrev idxB (xs : List PyData) (d : PyData) (k : DB) : Bool := bnd (idxO xs d) k
theorem idxK (h : idxB xs y kb = true) (hk : ∀ a, kb a = true → k a) : idxW xs y k := bndK (fun a e hh => by
  unfold idxO at e
  split at e
  · rename_i hs
    cases q : idxGo y xs 0 with
    | none => rw [q] at e; cases e
    | some j =>
      rw [q] at e
      cases e
      obtain ⟨m, z, h1, h2, h3, h4⟩ := idxGo_ok q
      refine ⟨hs.1, hs.2, j, z, ?_, h3, fun n z' hn => h4 n z' (by omega), hh⟩
      rw [h1, Nat.zero_add]; exact h2
  · cases e) h hk
/-! draws of few -/
abbrev drawB (x : PyData) (k : DB) : Bool := match x with | .int n => decide (0 < n ∧ n ≤ 64) && (List.range n.toNat).all fun r : Nat => k (.int r) | _ => false
theorem drawK (h : drawB x kb = true) (hk : ∀ a, kb a = true → k a) : drawW x k := by
  cases x with
  | int n =>
    have h' : (decide (0 < n ∧ n ≤ 64) && (List.range n.toNat).all fun r : Nat => kb (.int r)) = true := h
    rw [Bool.and_eq_true, List.all_eq_true] at h'
    obtain ⟨h1, h2⟩ := h'
    have h1 := of_decide_eq_true h1
    refine ⟨h1.1, by omega, fun r h3 h4 => hk _ ?_⟩
    have := h2 r.toNat (List.mem_range.mpr (by omega))
    rwa [show ((r.toNat : Nat) : Int) = r by omega] at this
  | _ => cases h
end
def isT : PyData → Bool | .bool true => true | _ => false
theorem isT_ok {d : PyData} (h : isT d = true) : d = .bool true := by
  unfold isT at h
  split at h
  · rfl
  · cases h
theorem isT_go {p : PyData → Prop} (h : p (.bool true)) : ∀ d, isT d = true → p d := fun d hd => by rw [isT_ok hd]; exact h
theorem noGo {er : XP} : ∀ n f, noB n f = true → er n f := fun _ _ h => nomatch h
end Eh

/-! several except clauses, each with a name for the error or without -/
namespace Eh
open PySem PySem.Spec PyProof.Rows L2 L2N
abbrev Cls := Value × Option Nat × (Addr → Value → Option Addr → TS)
/-- the ends behind a suite whose name goes -/
abbrev goneE (i : Nat) (D : Ends) : Ends := { nx := fun σ' H' => D.nx (σ'.set i none) H', rt := D.rt, bk := fun σ' H' => D.bk (σ'.set i none) H', ct := fun σ' H' => D.ct (σ'.set i none) H' }
def wCls (K : PySem.W.Frag) (Wout : WX) (D : Ends) : List Cls → WX
  | [] => Wout
  | (c, none, ts) :: r => fun cls d σ H => ∃ b, PySem.W.exmOne K cls c = some b ∧ (b = true → ∀ a, H a = none → ts a cls d D σ H) ∧ (b = false → wCls K Wout D r cls d σ H)
  | (c, some i, ts) :: r => fun cls d σ H => ∃ b, PySem.W.exmOne K cls c = some b ∧ (b = true → ∀ a, H a = none → ts a cls d (goneE i D) (σ.set i (some (.ref a))) H) ∧ (b = false → wCls K Wout D r cls d σ H)
inductive HdsN (X : Cx) : List ExceptHandler → List Cls → Prop
  | nil : HdsN X [] []
  | cons {x : Str} {c : Value} {ts : Addr → Value → Option Addr → TS} {b₀ : Stmt} {suite : List Stmt} {np pos' : Pos} {hds : List ExceptHandler} {l : List Cls} (hc : Names X x c)
      (hsu : ∀ (a : Addr) (oe : Obj) (cls : Value) (d : Option Addr) (pn : List (Addr × Obj)), L2N.Zn cls d oe → (∃ vs, oe.data = .fields vs) → PSs (X.suite a ((a, oe) :: pn)) (b₀ :: suite) (ts a cls d)) (r : HdsN X hds l) :
      HdsN X (.ExceptHandler (some (.Name x np)) none (b₀ :: suite) pos' :: hds) ((c, none, ts) :: l)
  | consAs {x n : Str} {i : Nat} {c : Value} {ts : Addr → Value → Option Addr → TS} {b₀ : Stmt} {suite : List Stmt} {np pos' : Pos} {hds : List ExceptHandler} {l : List Cls} (hN : X.N.Nodup) (hi : X.N[i]? = some n) (hln : X.env.kindOf n = some .local) (hc : Names X x c)
      (hsu : ∀ (a : Addr) (oe : Obj) (cls : Value) (d : Option Addr) (pn : List (Addr × Obj)), L2N.Zn cls d oe → (∃ vs, oe.data = .fields vs) → PSs (X.suite a ((a, oe) :: pn)) (b₀ :: suite) (ts a cls d)) (r : HdsN X hds l) :
      HdsN X (.ExceptHandler (some (.Name x np)) (some n) (b₀ :: suite) pos' :: hds) ((c, some i, ts) :: l)
section
variable {X : Cx} {body : List Stmt} {h₀ : ExceptHandler} {hds : List ExceptHandler} {l : List Cls} {pos : Pos} {tb : WX → TS} {Wout : WX}
theorem ps_try_cls (hs : X.stack = X.env :: X.outer) (hf : X.env.frame = some X.env.locals) (tk : L2N.Takes X Wout)
    (hb : ∀ (W : WX) (pn : List (Addr × Obj)) (xe : Value → Shared → Prop), L2N.Takes (X.tr pn xe) W → PassesOwn (model X.prog X.w) X.A X.env xe → PSs (X.tr pn xe) body (tb W))
    (hh : HdsN X (h₀ :: hds) l) : PS X (.Try body (h₀ :: hds) [] [] pos) (fun D σ H => tb (wCls X.K Wout D l) D σ H) := by
  refine ⟨fun pins s σ H D I h => ?_⟩
  have ok := I.ok
  have hfr : X.A.frames = some (X.env :: X.outer) := by rw [ok.frames, hs]
  refine wpAny_Try_except ?_
  refine wpAny_mono ((hb (wCls X.K Wout D l) (X.pn ++ pins) (fun e s₁ => wpAny (model X.prog X.w) X.A (noteFrame e X.env) (fun _ s₂ => wpAny (model X.prog X.w) X.A (setFlight e none) (fun _ s₃ =>
    wpAny (model X.prog X.w) X.A (handleBy e X.env (h₀ :: hds)) (SP X pins D) X.xe s₃) X.xe s₂) X.xe s₁) (fun u s' xx => ?_) PassesOwn.looking).run [] s σ H D (I.toTry _) h) (fun f s1 hsp => ?_) (fun e s1 he => he)
  · -- the catch
    obtain ⟨a, B, sI, pins', σ', H', cls, d, rfl, J', nb, up, sky, na, os, ag, w⟩ := xx
    have J : Inv X pins σ' H' sI := J'.ofTry ok
    have sky' : Sky B (X.env :: X.outer) a (L2N.Zn cls d) X.env.locals s'.heap := by rw [← hs]; exact sky
    show wpAny (model X.prog X.w) X.A (noteFrame (.ref a) X.env) _ _ _
    refine Sky.land L2N.Zn.steady hfr hf sky' fun h3 fl3 up3 => ?_
    have J3 : Inv X pins σ' H' { s' with heap := h3 } := J.landed nb fl3.1 (up.trans up3) os ag
    obtain ⟨oe3, vs3, he3, hz3, hd3⟩ := fl3.there
    have notFr : ∀ {h : Heap} {o : Obj} {vs : Array Value}, h.FunFrames B (X.env :: X.outer) → h.get? a = some o → o.data = .fields vs → a ∉ frs (X.env :: X.outer) := fun {h o vs} ff e dd hm => by
      obtain ⟨_, o', e', hnf⟩ := ff.mem hm
      rw [e] at e'; cases e'
      exact hnf _ dd
    have nfr := notFr fl3.2.2.1 he3 hd3
    have nL : a ≠ X.env.locals := fun z => nfr (List.mem_filterMap.mpr ⟨X.env, List.mem_cons_self, by rw [hf, z]⟩)
    have nF : a ∉ X.fs := fun hm => by
      obtain ⟨e, he, q⟩ := List.mem_filterMap.mp hm
      exact nfr (List.mem_filterMap.mpr ⟨e, List.mem_cons_of_mem _ he, q⟩)
    have S3 := J3.suite he3 hd3 na nL nF
    have go : ∀ {hds' : List ExceptHandler} {l' : List Cls}, HdsN X hds' l' → wCls X.K Wout D l' cls d σ' H' →
        wpAny (model X.prog X.w) X.A (handleBy (.ref a) X.env hds') (SP X pins D) X.xe { s' with heap := h3 } := by
      intro hds' l' hk
      induction hk with
      | nil =>
        intro w
        refine wpAny_handleBy_nil ?_
        obtain ⟨k1, k2, k3, oe, vs, T, oT, ts', he, hz, hd, h1, hr⟩ := id fl3
        unfold PySem.passOn
        refine wpAny_bind (wpAny_field he hd h1 ?_)
        rw [if_neg (show ¬ ((Value.ref T == Value.none) = true) from by simp)]
        have fin : wpAny (model X.prog X.w) X.A (setFlight (.ref a) X.env.frame) (fun _ s4 => wpAny (model X.prog X.w) X.A (throw (.ref a) : Sem Flow) (SP X pins D) X.xe s4) X.xe { s' with heap := h3 } := by
          rw [hf]
          refine HandSPX.setFlight_upZ fl3 fun h4 hh4 up4 => wpAny_throw (tk _ _ ?_)
          exact ⟨a, B, sI, pins, σ', H', cls, d, rfl, J, nb, (up.trans up3).trans up4, .inr (.inr (by rw [hs]; exact hh4)), na, os, ag, w⟩
        first
          | exact wpAny_bind (wpAny_pure (wpAny_bind fin))
          | exact wpAny_bind fin
      | @cons x c ts b₀ suite np pos' hds2 l2 hc hsu r ih =>
        intro w
        obtain ⟨b, hb1, hyes, hno⟩ := w
        refine wpAny_handleBy_cons (codeAny_handlers_test ?_) (by intro q; cases q)
        have LT : PySem.W.Looks (model X.prog X.w) h3 (typeOf (.ref a)) cls := fun A Q E s k q => wpAny_typeOf_ref (k _ _ he3) (by rw [hz3.1]; exact q)
        have LM := PySem.W.exm_one (M := model X.prog X.w) (J3.kIn) LT hb1
        have test : ∀ {Q : Value → Shared → Prop} {E : Value → Shared → Prop}, Q c { s' with heap := h3 } → wpAny (model X.prog X.w) (X.A.mark (some (.ref a))) (eval (.Name x np) X.env) Q E { s' with heap := h3 } := fun {Q E} q => by
          obtain ⟨hg, hdbg, hm | ⟨hm, hv, hnn⟩⟩ := hc
          · exact ld_glob (X := X.suite a ((a, oe3) :: (X.pn ++ pins))) S3 hg hm q hdbg
          · exact ld_blt (X := X.suite a ((a, oe3) :: (X.pn ++ pins))) S3 hg hm hv q hnn hdbg
        refine test (LM.here ?_)
        cases b with
        | true =>
          refine codeAny_handlers_suite ?_
          refine HandSPX.lands_againZ fl3 fun h4 fl4 up4 => ?_
          have J4 : Inv X pins σ' H' { s' with heap := h4 } := J.landed nb fl4.1 ((up.trans up3).trans up4) os ag
          obtain ⟨oe4, vs4, he4, hz4, hd4⟩ := fl4.there
          have S4 := J4.suite he4 hd4 na nL nF
          refine wpAny_mono ((hsu a oe4 cls d (X.pn ++ pins) hz4 ⟨_, hd4⟩).run [] _ _ H' _ S4 (hyes rfl a na)) (fun f s6 hsp => ?_) (fun _ _ z => False.elim z)
          cases f with
          | next =>
            obtain ⟨σ6, H6, S6, q6⟩ := hsp
            exact ⟨_, _, S6.unsuite ok, q6⟩
          | brk =>
            obtain ⟨σ6, H6, S6, q6⟩ := hsp
            exact ⟨_, _, S6.unsuite ok, q6⟩
          | cont =>
            obtain ⟨σ6, H6, S6, q6⟩ := hsp
            exact ⟨_, _, S6.unsuite ok, q6⟩
          | ret u =>
            obtain ⟨v6, σ6, H6, S6, r6, q6⟩ := hsp
            exact ⟨_, _, _, S6.unsuite ok, r6, q6⟩
        | false =>
          show wpAny _ X.A (handleBy (.ref a) X.env hds2) _ _ _
          exact ih (hno rfl)
      | @consAs x n i c ts b₀ suite np pos' hds2 l2 hN hi hln hc hsu r ih =>
        intro w
        obtain ⟨b, hb1, hyes, hno⟩ := w
        refine wpAny_handleBy_cons (codeAny_handlers_test ?_) (by intro q; cases q)
        have LT : PySem.W.Looks (model X.prog X.w) h3 (typeOf (.ref a)) cls := fun A Q E s k q => wpAny_typeOf_ref (k _ _ he3) (by rw [hz3.1]; exact q)
        have LM := PySem.W.exm_one (M := model X.prog X.w) (J3.kIn) LT hb1
        have test : ∀ {Q : Value → Shared → Prop} {E : Value → Shared → Prop}, Q c { s' with heap := h3 } → wpAny (model X.prog X.w) (X.A.mark (some (.ref a))) (eval (.Name x np) X.env) Q E { s' with heap := h3 } := fun {Q E} q => by
          obtain ⟨hg, hdbg, hm | ⟨hm, hv, hnn⟩⟩ := hc
          · exact ld_glob (X := X.suite a ((a, oe3) :: (X.pn ++ pins))) S3 hg hm q hdbg
          · exact ld_blt (X := X.suite a ((a, oe3) :: (X.pn ++ pins))) S3 hg hm hv q hnn hdbg
        refine test (LM.here ?_)
        cases b with
        | true =>
          refine codeAny_handlers_suite_as ?_
          refine HandSPX.lands_againZ fl3 fun h4 fl4 up4 => ?_
          have J4 : Inv X pins σ' H' { s' with heap := h4 } := J.landed nb fl4.1 ((up.trans up3).trans up4) os ag
          obtain ⟨oe4, vs4, he4, hz4, hd4⟩ := fl4.there
          have S4 := J4.suite he4 hd4 na nL nF
          refine store_ok (X := X.suite a ((a, oe4) :: (X.pn ++ pins))) (v := .ref a) S4 hN hi (.inl hln) rfl (fun s5 S5 => ?_) (.inr hln)
          refine wpAny_mono ((hsu a oe4 cls d (X.pn ++ pins) hz4 ⟨_, hd4⟩).run [] s5 _ H' _ S5 (hyes rfl a na)) (fun f s6 hsp => ?_) (fun _ _ z => False.elim z)
          have end_ : ∀ {σ6 : L2.St} {H6 : Hp} {Q : Shared → Prop}, Inv (X.suite a ((a, oe4) :: (X.pn ++ pins))) [] σ6 H6 s6 → (∀ s7, Inv X pins (σ6.set i none) H6 s7 → Q s7) →
              wpAny (model X.prog X.w) X.A (do bindName X.env n .none; unbindBehindTheSuite X.env n pos') (fun _ s7 => Q s7) X.xe s6 := fun {σ6 H6 Q} S6 hq => gone_ok (S6.unsuite ok) hN hi hln hq
          cases f with
          | next =>
            obtain ⟨σ6, H6, S6, q6⟩ := hsp
            exact end_ S6 fun s7 J7 => ⟨_, _, J7, q6⟩
          | brk =>
            obtain ⟨σ6, H6, S6, q6⟩ := hsp
            exact end_ S6 fun s7 J7 => ⟨_, _, J7, q6⟩
          | cont =>
            obtain ⟨σ6, H6, S6, q6⟩ := hsp
            exact end_ S6 fun s7 J7 => ⟨_, _, J7, q6⟩
          | ret u =>
            obtain ⟨v6, σ6, H6, S6, r6, q6⟩ := hsp
            exact end_ S6 fun s7 J7 => ⟨_, _, _, J7, r6, q6⟩
        | false =>
          show wpAny _ X.A (handleBy (.ref a) X.env hds2) _ _ _
          exact ih (hno rfl)
    exact go hh w
  · cases f with
    | next =>
      obtain ⟨σ', H', J', q⟩ := hsp
      exact wpAny_execs_nil ⟨σ', H', J'.ofTry ok, q⟩
    | brk =>
      obtain ⟨σ', H', J', q⟩ := hsp
      exact ⟨σ', H', J'.ofTry ok, q⟩
    | cont =>
      obtain ⟨σ', H', J', q⟩ := hsp
      exact ⟨σ', H', J'.ofTry ok, q⟩
    | ret u =>
      obtain ⟨v, σ', H', J', r, q⟩ := hsp
      exact ⟨v, σ', H', J'.ofTry ok, r, q⟩
end
end Eh

namespace Eh
open PySem PySem.Spec PyProof.Rows L2
def tTryC (K : PySem.W.Frag) (l : List Cls) (Wout : WX) (tb : WX → TS) : TS := fun D σ H => tb (wCls K Wout D l) D σ H
section
variable {A : Str → Addr} {C : Pc} {Γ : List Sl} {K : PySem.W.Frag} {B F0 : Hp} {D : Ends} {i i2 : Nat} {J J2 : Str} {xn : List Str} {e : XK} {er : XP} {Hf Hf2 : Str → Prop} {g : XP → Prop} {ts ts2 : Addr → Value → Option Addr → TS} {tb : WX → TS}
theorem xt_last (hx : RaiseW A C B F0 e er) {n : Str} {f : Option (List (Str × V))} {cv : Value} {dd : Option Addr} {F H : Hp} (w : Wd C F H) (gr : Grow C.S F0 B F H) (h : er n f) (hc : XcOk (A n) f cv dd H) : e cv dd H := hx F H cv dd n f w gr h hc
/-- two clauses, the first with a name -/
theorem aw_try2 (fx : XF A K xn) (hx : RaiseW A C B F0 e er) (h : joinW g (fun n f => catchW xn n J (f = none ∧ Hf n) (catchW xn n J2 (f = none ∧ Hf2 n) (er n f))))
    (hb : ∀ xr W, RaiseT A C B F0 Γ (WE W) xr → g xr → At C B F0 Γ (tb W D))
    (hs : ∀ n a D', D'.rt = D.rt → Hf n → At C B F0 (Γ.set i (.ref a)) (ts a (.ref (A n)) none D'))
    (hs2 : ∀ n a, Hf2 n → At C B F0 Γ (ts2 a (.ref (A n)) none D)) :
    At C B F0 Γ (tTryC K [(.ref (A J), some i, ts), (.ref (A J2), none, ts2)] (fun cls d _ H => e cls d H) tb D) := by
  refine hb _ (wCls K (fun cls d _ H => e cls d H) D [(.ref (A J), some i, ts), (.ref (A J2), none, ts2)]) (fun F H σ cv dd n f w gr gm hxx hc => ?_) h
  obtain ⟨h1, h2, h3⟩ := hxx
  have hm := fx.exm n h1 J h2
  have e1 : cv = .ref (A n) := hc.1
  cases hsub : subX n J with
  | true =>
    rw [hsub] at h3 hm
    obtain ⟨rfl, hH⟩ : f = none ∧ Hf n := h3
    obtain ⟨rfl, hd⟩ := hc
    have hd' : dd = none := hd
    subst hd'
    exact ⟨true, hm, fun _ a ha => hs n a (goneE i D) rfl hH F H _ w gr (gm.set (s := .ref a) rfl fun _ z => nomatch z), fun z => nomatch z⟩
  | false =>
    rw [hsub] at h3 hm
    obtain ⟨_, k2, k3⟩ : catchW xn n J2 (f = none ∧ Hf2 n) (er n f) := h3
    have hm2 := fx.exm n h1 J2 k2
    refine ⟨false, by rw [e1]; exact hm, (fun z => nomatch z), fun _ => ?_⟩
    cases hsub2 : subX n J2 with
    | true =>
      rw [hsub2] at k3 hm2
      obtain ⟨rfl, hH⟩ : f = none ∧ Hf2 n := k3
      obtain ⟨rfl, hd⟩ := hc
      have hd' : dd = none := hd
      subst hd'
      exact ⟨true, hm2, fun _ a ha => hs2 n a hH F H _ w gr gm, fun z => nomatch z⟩
    | false =>
      rw [hsub2] at k3 hm2
      have k3' : er n f := k3
      exact ⟨false, by rw [e1]; exact hm2, (fun z => nomatch z), fun _ => hx F H cv dd n f w gr k3' hc⟩
/-- two clauses, both with a name -/
theorem aw_try2n (fx : XF A K xn) (hx : RaiseW A C B F0 e er) (h : joinW g (fun n f => catchW xn n J (f = none ∧ Hf n) (catchW xn n J2 (f = none ∧ Hf2 n) (er n f))))
    (hb : ∀ xr W, RaiseT A C B F0 Γ (WE W) xr → g xr → At C B F0 Γ (tb W D))
    (hs : ∀ n a D', D'.rt = D.rt → Hf n → At C B F0 (Γ.set i (.ref a)) (ts a (.ref (A n)) none D'))
    (hs2 : ∀ n a D', D'.rt = D.rt → Hf2 n → At C B F0 (Γ.set i2 (.ref a)) (ts2 a (.ref (A n)) none D')) :
    At C B F0 Γ (tTryC K [(.ref (A J), some i, ts), (.ref (A J2), some i2, ts2)] (fun cls d _ H => e cls d H) tb D) := by
  refine hb _ (wCls K (fun cls d _ H => e cls d H) D [(.ref (A J), some i, ts), (.ref (A J2), some i2, ts2)]) (fun F H σ cv dd n f w gr gm hxx hc => ?_) h
  obtain ⟨h1, h2, h3⟩ := hxx
  have hm := fx.exm n h1 J h2
  have e1 : cv = .ref (A n) := hc.1
  cases hsub : subX n J with
  | true =>
    rw [hsub] at h3 hm
    obtain ⟨rfl, hH⟩ : f = none ∧ Hf n := h3
    obtain ⟨rfl, hd⟩ := hc
    have hd' : dd = none := hd
    subst hd'
    exact ⟨true, hm, fun _ a ha => hs n a (goneE i D) rfl hH F H _ w gr (gm.set (s := .ref a) rfl fun _ z => nomatch z), fun z => nomatch z⟩
  | false =>
    rw [hsub] at h3 hm
    obtain ⟨_, k2, k3⟩ : catchW xn n J2 (f = none ∧ Hf2 n) (er n f) := h3
    have hm2 := fx.exm n h1 J2 k2
    refine ⟨false, by rw [e1]; exact hm, (fun z => nomatch z), fun _ => ?_⟩
    cases hsub2 : subX n J2 with
    | true =>
      rw [hsub2] at k3 hm2
      obtain ⟨rfl, hH⟩ : f = none ∧ Hf2 n := k3
      obtain ⟨rfl, hd⟩ := hc
      have hd' : dd = none := hd
      subst hd'
      exact ⟨true, hm2, fun _ a ha => hs2 n a (goneE i2 D) rfl hH F H _ w gr (gm.set (s := .ref a) rfl fun _ z => nomatch z), fun z => nomatch z⟩
    | false =>
      rw [hsub2] at k3 hm2
      have k3' : er n f := k3
      exact ⟨false, by rw [e1]; exact hm2, (fun z => nomatch z), fun _ => hx F H cv dd n f w gr k3' hc⟩
end
end Eh

namespace Eh
open PySem PySem.Spec PyProof.Rows L2
variable {A : Str → Addr} {C : Pc} {E : L2.St → XK} {Γ : List Sl} {K : PySem.W.Frag} {w : World} {ta : TE} {m : WD}
/-- sorted(set(x)) of a tuple of numbers -/
def ssetW (x : PyData) (k : List PyData → Prop) : Prop := match x with
  | .tuple xs => ∃ ns : List Int, xs = ns.map .int ∧ ns.length < 64 ∧ ∀ ms : List Int, ms.Pairwise (· < ·) → (∀ j, j ∈ ms ↔ j ∈ ns) → k (ms.map .int)
  | _ => False
theorem nw_sset (h : Ew A C E ta Γ m) : Nw A C E (tCB (rSortedSet w) (tCons (tCB (rSetT K w) (tCons ta tNil)) tNil)) Γ (fun P X => m (fun x => ssetW x P) X) :=
  fun P X hm B F H σ wd g Q q xo => h _ X hm B F H σ wd g _ (fun v F1 H1 x g1 w1 h1 r1 => by
    unfold ssetW at h1
    split at h1
    · rename_i xs
      obtain ⟨ns, rfl, hz, hk⟩ := h1
      obtain ⟨p, vs, rfl, f, ra⟩ := r1.tup_inv
      refine ⟨p, ns, rfl, SqT.of (by rw [w1.sub _ _ f, ra.ints]), by omega, fun p' n hn hp' => ?_⟩
      refine ⟨p', _, n, rfl, upd_same, by omega, fun ns' l hs hmm hl hn' => ?_⟩
      have g2 := g1.trans (.newM (o := SetO w p' (fun j => decide (j ∈ ns)) n) w1.sub hp')
      have w2 := newM_wd (o := SetO w p' (fun j => decide (j ∈ ns)) n) w1 hp'
      exact q _ F1 _ _ (g2.trans (.newM w2.sub hn')) (newM_wd w2 hn') (hk ns' hs fun j => by rw [hmm j, decide_eq_true_eq]) ⟨l, _, rfl, g2.fresh hn', w2.sub.none hn', fun z => w2.sH l z hn', upd_same, .of_ints _⟩
    · exact h1.elim) xo
/-- list(reversed(x)) of a tuple -/
def revTW (x : PyData) (k : List PyData → Prop) : Prop := match x with | .tuple xs => xs.length ≤ 100000 ∧ k xs.reverse | _ => False
theorem nw_rev (h : Ew A C E ta Γ m) : Nw A C E (tListRevT K ta) Γ (fun P X => m (fun x => revTW x P) X) :=
  fun P X hm B F H σ wd g Q q xo => h _ X hm B F H σ wd g _ (fun v F1 H1 x g1 w1 h1 r1 => by
    unfold revTW at h1
    split at h1
    · rename_i xs
      obtain ⟨hz, hk⟩ := h1
      obtain ⟨a, vs, rfl, f, ra⟩ := r1.tup_inv
      exact ⟨a, vs, rfl, SqT.of (w1.sub _ _ f), by rw [ra.length]; exact hz, fun p hp => q _ F1 _ _ (g1.trans (.newM w1.sub hp)) (newM_wd w1 hp) hk ⟨p, _, rfl, g1.fresh hp, w1.sub.none hp, fun z => w1.sH p z hp, upd_same, ra.reverse⟩⟩
    · exact h1.elim) xo
end Eh

namespace Eh
open PySem PySem.W PySem.Spec PySem.Calls PyProof.Rows
section
variable {prog : Program} {w : World} {A : Around} {E : Value → Shared → Prop} {s : Shared} {K : Frag} {x D : Addr} {ox : Obj}
theorem kin_classEO {od : Option Obj} {Q : Option Value → Shared → Prop} (hga : findIn K (.ref D) "__getattribute__" = some (some (.builtin "BaseException.__getattribute__"))) (hgt : findIn K (.ref D) "__getattr__" = some none) (hsub : subIn K (.ref D) (.type "BaseException") = some true)
    (hdct : hasDictIn K D = true) (ha : findIn K (.ref D) "__class__" = some (some (.builtin "object.__class__")))
    (hn : specialIn K (.builtin "object.__class__") "__get__" = some (some (.builtin "getset_descriptor.__get__"))) (htk : takesIn K (.builtin "object.__class__") = some true) (hm : mroIn K D (.type "object") = some true)
    (X : K.In s.heap) (hf : findObj K D od "__class__" = some (.bind (.builtin "getset_descriptor.__get__") (.builtin "object.__class__"))) (I : InstAt s.heap x ox D od) (h : Q (some (.ref D)) { s with toks := s.toks + 1 }) : wpAny (model prog w) A (getAttr? (.ref x) "__class__") Q E s := by
  obtain ⟨hp, g, d, t, os⟩ := s
  have L0 := I.type (M := model prog w)
  have L1 := looks_findIn (M := model prog w) X hga
  have L2 := looks_findIn (M := model prog w) X hgt
  have L3 := looks_find (M := model prog w) X I hf
  have sub : Looks (model prog w) hp (isInstance (.ref x) (.type "BaseException")) true := L0.andThen (looks_subIn X hsub)
  have hx0 : (false && onTheHeap (Value.builtin "BaseException.__getattribute__")) = false := rfl
  have hx2 : (Value.builtin "BaseException.__getattribute__" == Value.builtin "object.__getattribute__") = false := by decide +kernel
  have hx1 : (onTheHeap (Value.ref D) && Value.builtin "BaseException.__getattribute__" == Value.builtin "object.__getattribute__") = false := by rw [hx2]; rfl
  unfold getAttr? getAttrBy? getAttrBy
  refine wpAny_bind (wpAny_mkText (wpAny_bind (wpAny_attempt (wpAny_holding (wpAny_bind (L0.at (wpAny_bind (L1.at ?_))))))))
  show wpAny _ _ (if (onTheHeap (Value.ref D) && Value.builtin "BaseException.__getattribute__" == Value.builtin "object.__getattribute__") = true then _ else _) _ _ _
  rw [hx1, if_neg Bool.false_ne_true]
  unfold getAttrByItsOwn hookBefore
  refine wpAny_bind ?_
  rw [if_pos (show onTheHeap (Value.ref D) = true from rfl)]
  refine L2.at ?_
  refine wpAny_bind (wpAny_attempt (wpAny_holding ?_))
  unfold callGetattribute
  rw [hx0, if_neg Bool.false_ne_true]
  unfold boundAndCalled
  rw [PySem.F.excAttr_ValueError.ga.bind (.ref x)]
  refine wpAny_bind (wpAny_pure ?_)
  show wpAny _ _ (call (.builtin "BaseException.__getattribute__") [.ref x, .str "__class__" t]) _ _ _
  refine wpAny_call (codeAny_call_builtin PySem.F.excAttr_ValueError.ga.plain PySem.F.entry_bexc_ga ?_)
  refine @check_slot (model prog w) _ _ ⟨hp, g, d, t + 1, os⟩ "BaseException.__getattribute__" "BaseException" "__getattribute__" (.ref x) [.str "__class__" t] [] _ (by decide +kernel) (by decide +kernel) sub (PySem.F.args_bexc_ga (.ref x) (.str "__class__" t)) ?_
  unfold Builtin.«object.__getattribute__»
  refine wpAny_bind (wpAny_of_eq (a := ((Value.ref x : Value), [Value.str "__class__" t])) (by first | rfl | (simp only [slotArgs]; rfl)) ?_)
  refine wpAny_bind (wpAny_pure (wpAny_bind (L0.at (wpAny_bind (L3.at ?_)))))
  show wpAny _ _ (holding [Value.builtin "object.__class__"] (call (.builtin "getset_descriptor.__get__") [.builtin "object.__class__", .ref x, .ref D]) >>= ret) _ _ _
  refine wpAny_bind (wpAny_holding (wpAny_call (class_get (s := ⟨hp, g, d, t + 1, os⟩) (ox := ox) (od := od) X I hm ?_)))
  refine wpAny_pure ?_
  show wpAny _ _ (handedOut (.ref D)) _ _ _
  rw [handedOut_of (v := .ref D) rfl]
  first
    | exact wpAny_pure (wpAny_pure h)
    | exact wpAny_pure h
    | exact wpAny_pure (wpAny_bind (wpAny_pure (wpAny_pure h)))
theorem kitx_excD {od : Obj} (hga : findIn K (.ref D) "__getattribute__" = some (some (.builtin "BaseException.__getattribute__"))) (hgt : findIn K (.ref D) "__getattr__" = some none) (hsub : subIn K (.ref D) (.type "BaseException") = some true) (hdct : hasDictIn K D = true) (ha : findIn K (.ref D) "__class__" = some (some (.builtin "object.__class__")))
    (hn : specialIn K (.builtin "object.__class__") "__get__" = some (some (.builtin "getset_descriptor.__get__"))) (htk : takesIn K (.builtin "object.__class__") = some true) (hm : mroIn K D (.type "object") = some true) :
    KitX K (.ref x) (.ref D) (fun h => InstAt h x ox D (some od)) where
  ty := fun _ _ _ I => I.type
  it := fun _ _ X _ => by
    obtain ⟨cdD, hcD, _⟩ := any_some hdct
    unfold clsIn at hcD
    split at hcD
    · rename_i c' d' cd' sl' ho
      intro A' Q' E' s' k q
      unfold isType loadHead
      exact wpAny_bind (wpAny_loadPart (k _ _ (X _ _ ho)) (wpAny_pure q))
    · cases hcD
  ne := fun h tp dd its n sl X htp => by
    obtain ⟨cdD, hcD, _⟩ := any_some hdct
    refine Bool.eq_false_iff.mpr fun q => ?_
    have e : D = tp := Value.ref.inj (beq_iff_eq.mp q)
    subst e
    unfold clsIn at hcD
    split at hcD
    · rename_i c' d' cd' sl' ho
      have z := (X _ _ ho).symm.trans htp
      cases z
    · cases hcD
  ca := fun X I k => kin_classEO hga hgt hsub hdct ha hn htk hm X (findObj_data (by obtain ⟨cd, hc, _⟩ := any_some hdct; rw [hc]; rfl) ha hn htk) I k
end
end Eh
namespace Eh
open PySem PySem.Spec PyProof.Rows L2
/-- isinstance(e, c), e the error that the suite holds, its dict at dx -/
def rIsED (K : PySem.W.Frag) (D a dx : Addr) : List V → Hp → VK → Prop := fun xs H Q => ∃ (c : V) (cv : Value) (b : Bool) (fs : List (Str × V)), xs = [.ref a, c] ∧ (∀ u, L2.RelV c u → u = cv) ∧ PySem.W.kitOne K (.ref D) cv = some b ∧ H dx = some (.xd fs) ∧ Q (.bl b) H
theorem call_isED {X : Cx} {a D dx : Addr} {oe : Obj} {pn : List (Addr × Obj)} (C : ExcC X.K D) (hz : Zc (.ref D) (some dx) oe) (hf : ∃ vs, oe.data = .fields vs) : CallR (X.suite a ((a, oe) :: pn)) (.builtin "isinstance") (rIsED X.K D a dx) := by
  intro pins s σ H xs us Q I r h
  obtain ⟨c, cv, b, fs, rfl, hcv, e, hd, q⟩ := h
  cases r with
  | cons rx rr =>
    cases rr with
    | cons rt rr =>
      cases rr
      cases rx
      have ec := hcv _ rt
      subst ec
      obtain ⟨hget, _⟩ := I.pin (a, oe) (List.mem_append.mpr (.inl List.mem_cons_self))
      obtain ⟨vs, hv⟩ := hf
      obtain ⟨mA, ⟨od, es, ep, hod, _⟩, _⟩ := I.hok dx _ hd
      have J : PySem.W.InstAt s.heap a oe D (some od) := by
        obtain ⟨oc, od', oda, osl⟩ := oe
        obtain ⟨h1, h2⟩ := hz
        dsimp only at h1 h2 hv
        subst h1 h2 hv
        exact ⟨hget, rfl, rfl, hod⟩
      exact PySem.W.kia_one (kitx_excD C.hg C.hk C.hs C.hd C.ha C.hn C.ht C.hm) I.kIn J e (fun z => nomatch z) fun tk => ⟨.bl b, H, I.kept (t' := tk) fun _ _ z => z, rfl, q⟩
end Eh

/-! super().__init__(x) in an error class of the program, in a context of HandS -/
namespace Eh
open PySem PySem.W PySem.Spec PySem.Calls PyProof.Rows L2
section
variable {X : Cx} {pins : List (Addr × Obj)} {σ : L2.St} {H : Hp} {s : Shared} {a C cc cda f : Addr} {q file : Str} {sc : Scope} {L : Addr}
/-- what the written part tells of the class and its __init__ -/
structure SupC (K : PySem.W.Frag) (P : Program) (mg : Str → Option Value) (C cc cda f : Addr) (sc : Scope) (me arg : Str) : Prop where
  oex : OexC K C
  fn : ∃ oc od fd osl ar, K.lookup f = some ⟨oc, od, .func fd, osl⟩ ∧ (fd.params.posonlyargs ++ fd.params.args).head? = some ar ∧ ar.arg = me
  code : ∃ ccl cdd vs ccs file tf, K.lookup cda = some ⟨ccl, cdd, .fields vs, ccs⟩ ∧ vs[2]? = some (.str file tf) ∧ ((P.main.file : Str) == file) = true
  top : (P.main.scope.names.lookup ("super" : Str)).isSome = false
  cell : ∃ cl cld csl, K.lookup cc = some ⟨cl, cld, .cell (some (.ref C)), csl⟩
  sub : mroIn K C (.ref C) = some true
  sup : ks_superIn K C C "__init__" = some (some (.builtin "ValueError.__init__"))
  isB : subIn K (.ref C) (.type "ValueError") = some true
  opq : nsIn K cStatics "thirdparty.any" = some none
  nos : mg "super" = none
  ks : sc.names.lookup ("super" : Str) = some .globalImplicit
  kc : sc.names.lookup ("__class__" : Str) = some .free
  kme : sc.names.lookup me = some .local
  karg : sc.names.lookup arg = some .local
  kind : sc.kind = .function
theorem local_at {x : Str} {i : Nat} {v : V} (I : L2.Inv X pins σ H s) (hN : X.N[i]? = some x) (hs : σ[i]? = some (some v)) (hk : X.env.scope.names.lookup x = some .local) : ∃ m u, s.heap.Ns X.env.locals m ∧ m x = some u ∧ L2.RelV v u := by
  obtain ⟨m, hn, hl⟩ := I.loc
  obtain ⟨u, ru, hu⟩ := hl i x v hN hs (.inl hk)
  rcases hu with ⟨_, h2⟩ | ⟨h1, _⟩
  · exact ⟨m, u, hn, h2, ru⟩
  · have h1 : X.env.scope.names.lookup x = some .cell ∨ X.env.scope.names.lookup x = some .free := h1
    rcases h1 with h1 | h1 <;> (rw [hk] at h1; cases h1)
theorem wpAt_sup {me arg : Str} {i j : Nat} {v : V} {body : List Stmt} {p0 p1 p2 p3 p4 p5 : Pos} {Q : Flow → Shared → Prop} (S : SupC X.K X.prog X.mg C cc cda f sc me arg) (I : L2.Inv X pins σ H s) (hE : X.env = envX q sc L f (.ref cda) [("__class__", cc)])
    (hi : X.N[i]? = some me) (hsi : σ[i]? = some (some (.ref a))) (hj : X.N[j]? = some arg) (hsj : σ[j]? = some (some v)) (hd : (arg == ("__debug__" : Str)) = false) (ha : H a = some (exo a C none)) (hQ : ∀ s', L2.Inv X pins σ H s' → Q .next s') {pl : Sem Bool}
    (he : eval (.Call (.Attribute (.Call (.Name "super" p0) [] [] p1) "__init__" p2) [.Name arg p3] [] p4) X.env = (do
      let ov ← attributeBase (.Call (.Name "super" p0) [] [] p1) "__init__" X.env (eval (.Call (.Name "super" p0) [] [] p1) X.env)
      standAt p2.atName
      let (f, first) ← holding [ov] (getMethod ov "__init__" pl)
      callWith p4 f first (backTo p4 (starEach [.Name arg p3] X.env)) []))
    (hia : interactive X.env = false) (hsw : swapsWith (.Call (.Attribute (.Call (.Name "super" p0) [] [] p1) "__init__" p2) [.Name arg p3] [] p4) none p5.line X.env = pure false)
    (hst : starEach [.Name arg p3] X.env = (false, eval (.Name arg p3) X.env) :: starEach [] X.env) :
    _root_.PySem.wpAt (model X.prog X.w) X.A (.func body X.env) (exec (.Expr (.Call (.Attribute (.Call (.Name "super" p0) [] [] p1) "__init__" p2) [.Name arg p3] [] p4) p5) X.env) Q X.xe s := by
  obtain ⟨oc, od, fd, osl, ar, hf, hp, har⟩ := S.fn
  obtain ⟨ccl, cdd, vs, ccs, file, tf, hcode, hvs, hfile⟩ := S.code
  obtain ⟨cl, cld, csl, hcell⟩ := S.cell
  obtain ⟨nm, qn, N', bs, bm, sn, sub, ab, col, dd, k0, k1, k2, k3, k5, hC, hbm⟩ := S.oex.cls
  have KX := I.kIn
  have hks : X.env.kindOf "super" = some .globalImplicit := by rw [hE]; exact S.ks
  have hkc : X.env.kindOf "__class__" = some .free := by rw [hE]; exact S.kc
  have hk : X.env.scope.kind = .function := I.ok.kind
  obtain ⟨m, u, hn, hu, ru⟩ := local_at I hi hsi (by rw [hE]; exact S.kme)
  obtain rfl : u = Value.ref a := ru
  obtain ⟨t0, hx⟩ := exo_at I.hok ha
  obtain ⟨mb, hb1, hb2⟩ := I.mod.blt
  refine ks_wpAt_Expr_any (ks_wpAt_MethodCall (ks_wpAt_super_base hks hkc (by decide) (by rw [hE]) (KX _ _ hf) rfl hp (by rw [hE]) (KX _ _ hcode) rfl hvs hfile S.top ?_) he) hia hsw
  refine ks_loadName_global hk hks (loadGlobal_builtin (by rw [I.ok.glob]; exact I.mod.glob.keeps I.bk) S.nos (by rw [I.ok.blt]; exact hb1.keeps I.bk) ((hb2 "super" (by decide)).trans (by rfl)) ⟨rfl, ?_⟩)
  refine wpAny_loadName_free hk hkc (by rw [hE]; rfl) ⟨_, KX _ _ hcell, rfl⟩ ?_
  refine wpAny_loadName_local hk (by rw [hE, har]; exact S.kme) hn (by rw [har]; exact hu) ?_
  refine ks_wpAny_isType_cls (KX _ _ hC) rfl ⟨rfl, ?_⟩
  obtain ⟨hh, g, d, tk, os⟩ := s
  refine ks_wpAny_call_super (KX _ _ hC) rfl hx rfl (fun c e => by cases e) (looks_mroIn KX S.sub) (fun h1 e1 kp1 => ?_)
  have I1 : L2.Inv X pins σ H { (⟨hh, g, d, tk, os⟩ : Shared) with heap := h1 } := I.kept (t' := tk) kp1
  have KX1 := I1.kIn
  have hsup := S.sup
  unfold ks_superIn at hsup
  cases hcd : clsIn X.K C with
  | none => rw [hcd] at hsup; cases hsup
  | some cd =>
    rw [hcd] at hsup
    have hxC : a ≠ C := fun z => by
      have e2 := KX _ _ hC
      rw [← z] at e2
      have e3 : some _ = some _ := hx.symm.trans e2
      cases e3
    have hx1 := kp1 _ _ hx
    have LI : Looks (model X.prog X.w) h1 (isInstance (.ref a) (.type "ValueError")) true := (InstAt.type (M := model X.prog X.w) (⟨hx1, rfl, rfl, trivial⟩ : InstAt h1 a _ C none)).andThen (looks_subIn KX1 S.isB)
    refine kxs_getMethod kxs_ValueError e1 (looks_opaque KX1 S.opq) (l₀ := cd.mro) (fun A Q E s k q => wpAny_bind ((looks_clsIn KX1 hcd) A _ E s k (wpAny_pure q))) rfl KX1 hsup LI hxC (by decide) ?_
    have I2 : L2.Inv X pins σ H { (⟨hh, g, d, tk, os⟩ : Shared) with heap := h1.push (kxs_mw "ValueError.__init__" a), toks := tk + 1 } := I1.kept (t' := tk + 1) fun b o e => Heap.get?_push_of_some _ e
    have KX2 := I2.kIn
    have hmw : (h1.push (kxs_mw "ValueError.__init__" a)).get? h1.objs.size = some (kxs_mw "ValueError.__init__" a) := Heap.get?_push_size _ rfl
    obtain ⟨m2, u2, hn2, hu2, ru2⟩ := local_at I2 hj hsj (by rw [hE]; exact S.karg)
    show wpAny _ _ (callWith p4 (.ref h1.objs.size) [] (backTo p4 (starEach [.Name arg p3] X.env)) []) _ _ _
    rw [hst]
    refine kxs_callWith (i := "ValueError.__init__") (x := a) rfl (evalArgs_plain (Calls.spliced_cons (wpAny_Name (wpAny_loadName_local hk (by rw [hE]; exact S.karg) hn2 hu2 ?_) hd)))
    refine Calls.spliced_nil ⟨hmw, ?_⟩
    -- the bound __init__ is called
    have he2 : (h1.push (kxs_mw "ValueError.__init__" a)).get? a = some ({ cls := .ref C, dict := none, data := .fields #[.ref t0, .none, .none, .none, .bool false, .none] } : Obj) := Heap.get?_push_of_some _ hx1
    refine wpAny_call (codeAny_of_tree ?_)
    show wpAny _ X.A.in1 (callAny (.ref h1.objs.size) ⟨[u2], []⟩) _ _ _
    simp only [callAny]
    refine wpAny_bind (wpAny_load hmw ?_)
    simp only [kxs_mw, show (Value.type "method-wrapper" == Value.type "method" || Value.type "method-wrapper" == Value.type "builtin_function_or_method" || Value.type "method-wrapper" == Value.type "method-wrapper") = true by decide, if_true]
    refine KFB.if_so (by decide) ?_
    refine wpAny_bind (check_bound_init PySem.F.excBase_ValueError.toExcCallFacts (KX2 _ _ hC) he2 rfl ?_)
    refine wpAny_bind (wpAny_pure (wpAny_pure ?_))
    refine ⟨plainId_quiet PySem.F.excBase_ValueError.init.plain _, codeAny_builtin PySem.F.excBase_ValueError.initEntry ?_⟩
    refine exc_init_tree (cls := .ref C) (t0 := t0) (dv := none) (c2 := .none) (c3 := .none) (b4 := .bool false) he2 (by show 1 ≤ sizeLine; decide) fun h' k' e' t' => ?_
    have J := I2.write (t' := tk + 1) (x := a) (e := a) (o := exo a C none) (h' := h') (by rw [ha]; exact True.intro) (.inl rfl) k' ⟨_, e'⟩ (exo_ok e')
    have eu : upd H a (exo a C none) = H := by
      funext b
      by_cases hb : b = a
      · rw [hb, upd_same, ha]
      · rw [upd_ne hb]
    rw [eu] at J
    exact hQ _ J
end
open NdefX
/-- BadRow's __init__: self is the error in the making, its dict then holds the place -/
def sp_supinit (C : Addr) (arg : Str) : Sp := fun vs H Q _ => ∃ (a : Addr) (v : V), vs = [.ref a, v] ∧ H a = some (exo a C none) ∧ ∀ dx, H dx = none → dx ≠ a → Q .non (upd (upd H dx (exd dx [(arg, v)])) a (exo a C (some dx)))
theorem fn_super {CX : CXT} {P : Program} {w : World} {K : PySem.W.Frag} {mg : Str → Option Value} {base : Heap} {k : Nat} {f C cc cda : Addr} {me arg qual : Str} {params : Arguments} {sc : Scope} {dV kV doc pm ct oc : Value} {an od : Option Addr} {osl : Array (Option Value)}
    {p0 p1 p2 p3 p4 p5 p6 p7 p8 p9 : Pos} {body : List Stmt} (hbody : body = [.Expr (.Call (.Attribute (.Call (.Name "super" p0) [] [] p1) "__init__" p2) [.Name arg p3] [] p4) p5, .Assign [.Attribute (.Name me p6) arg p7] (.Name arg p8) p9])
    (lk : K.lookup f = some ⟨oc, od, .func (fnX "__init__" qual params body sc [("__class__", cc)] dV kV doc pm an (.ref cda) ct), osl⟩) (hcd : codeIn K (.ref cda) qual = true) (S : NScope [me, arg, "__class__"] [me, arg] ["__class__"] sc)
    (SC : SupC K P mg C cc cda f sc me arg) (hno : findIn K (.ref C) arg = some none) (hd : (arg == ("__debug__" : Str)) = false) (hd2 : (me == ("__debug__" : Str)) = false) (hd3 : (me == ("__classdict__" : Str)) = false) (hd4 : (arg == ("__classdict__" : Str)) = false)
    (he : ∀ L : Addr, ∃ pl : Sem Bool, eval (.Call (.Attribute (.Call (.Name "super" p0) [] [] p1) "__init__" p2) [.Name arg p3] [] p4) (envX qual sc L f (.ref cda) [("__class__", cc)]) = (do
      let ov ← attributeBase (.Call (.Name "super" p0) [] [] p1) "__init__" (envX qual sc L f (.ref cda) [("__class__", cc)]) (eval (.Call (.Name "super" p0) [] [] p1) (envX qual sc L f (.ref cda) [("__class__", cc)]))
      standAt p2.atName
      let (g, first) ← holding [ov] (getMethod ov "__init__" pl)
      callWith p4 g first (backTo p4 (starEach [.Name arg p3] (envX qual sc L f (.ref cda) [("__class__", cc)]))) []))
    (hia : ∀ L : Addr, interactive (envX qual sc L f (.ref cda) [("__class__", cc)]) = false)
    (hsw : ∀ L : Addr, swapsWith (.Call (.Attribute (.Call (.Name "super" p0) [] [] p1) "__init__" p2) [.Name arg p3] [] p4) none p5.line (envX qual sc L f (.ref cda) [("__class__", cc)]) = pure false)
    (hsw2 : ∀ L : Addr, swapsWith (.Name arg p8) (some (.Attribute (.Name me p6) arg p7)) p9.line (envX qual sc L f (.ref cda) [("__class__", cc)]) = pure false) :
    FnOk P w K mg base CX (k + 1) f (fnX "__init__" qual params body sc [("__class__", cc)] dV kV doc pm an (.ref cda) ct) [me, arg] (sp_supinit C arg) := by
  refine ⟨fun vs H Q E h => by obtain ⟨a, v, rfl, _⟩ := h; rfl, fun A outer s H args us vs Q E hr e0 hb r hsp => ?_⟩
  obtain ⟨a, v, rfl, ha, hq⟩ := hsp
  have KX : K.In s.heap := e0.mod.kin.keeps fun b o e => (e0.bs b o e).1
  have lim : s.heap.NoLimit := e0.mod.nolimit.keeps fun b o e => (e0.bs b o e).1
  let F : NF := ⟨"__init__", qual, params, body, sc, [("__class__", cc)], cda⟩
  refine ks_codeAny_call_defAt (binds := [me, arg].zip us) hr.depth (KX _ _ lk) rfl lim (codeRec_of KX hcd) rfl hb S.nocell (fun ⟨n, _⟩ hy => S.par n (List.of_mem_zip hy).1) (fun h₀ hns kp => ?_) S.co S.gen S.kind
  obtain ⟨cl, cld, csl, hcell⟩ := SC.cell
  have hcc : base.get? cc = some ⟨cl, cld, .cell (some (.ref C)), csl⟩ := e0.mod.kin _ _ hcell
  have lk1 : ∀ y c, F.cl.lookup y = some c → y = "__class__" ∧ c = cc := fun y c e => by
    have e : List.lookup y [(("__class__" : Str), cc)] = some c := e
    simp only [List.lookup] at e
    split at e
    · rename_i hh
      cases e
      exact ⟨by simpa using hh, rfl⟩
    · cases e
  have CA : CellsAt F.cl ["__class__"] [none] s.heap H := {
    len := rfl
    all := fun y c e => by
      obtain ⟨_, rfl⟩ := lk1 y c e
      exact ⟨(e0.bs _ _ hcc).2, _, ⟨_, (e0.bs _ _ hcc).1, rfl⟩⟩
    inj := fun x y c e1 e2 => by rw [(lk1 x c e1).1, (lk1 y c e2).1]
    has := fun i y e => by
      match i, e with
      | 0, e => cases e; exact ⟨cc, rfl, fun v hv => by cases hv⟩ }
  have I : L2.Inv (ncx CX P w K mg base [me, arg, "__class__"] F f A outer s H E) [] (startF [me, arg, "__class__"] [.ref a, v] [none]) H { s with heap := h₀, toks := s.toks + ([me, arg].zip us).length } := inv_startN S hr.hd e0 rfl r CA hns kp
  let X := ncx CX P w K mg base [me, arg, "__class__"] F f A outer s H E
  obtain ⟨pl, hev⟩ := he s.heap.objs.size
  show _root_.PySem.wpAt (model P w) X.A (.func body X.env) (execs body X.env) _ _ _
  generalize hfb : Code.func body X.env = cb
  rw [hbody]
  refine ks_wpAt_execs_cons ?_
  rw [← hfb]
  refine wpAt_sup (X := X) (a := a) (C := C) (L := s.heap.objs.size) SC I rfl (i := 0) rfl rfl (j := 1) (v := v) rfl rfl hd ha (fun s' I' => ?_) hev (hia _) (hsw _) rfl
  refine wpAt_of_wpAny ?_
  have ht : PSs X [.Assign [.Attribute (.Name me p6) arg p7] (.Name arg p8) p9] (tOst X.K arg (tVar 0) (tVar 1)) :=
    pss_one (ps_ost (pe_var (i := 0) rfl (.inl SC.kme) hd2 hd3) (pe_var (i := 1) rfl (.inl SC.karg) hd hd4) (hsw2 _))
  have hok : (tOst X.K arg (tVar 0) (tVar 1)) { nx := fun _ H' => Q .non H', rt := Q, bk := fun _ _ => False, ct := fun _ _ => False } (startF [me, arg, "__class__"] [.ref a, v] [none]) H :=
    ⟨v, rfl, .ref a, rfl, a, C, rfl, SC.oex, hno, .inl ⟨ha, hq⟩⟩
  refine wpAny_mono (ht.run [] s' _ H _ I' hok) (fun fl s'' hs => ?_) fun e s'' hs => hs
  have fin : ∀ {σ' : L2.St} {H' : Hp} {v : V} {u : Value}, L2.Inv X [] σ' H' s'' → L2.RelV v u → Q v H' → CE outer P w H s Q u s'' :=
    fun {σ' H' v u} J rv q => ⟨v, H', J.os, J.bare, J.base, J.hok, rv, q⟩
  cases fl with
  | ret u =>
    obtain ⟨v, σ', H', J, rv, q⟩ := hs
    exact fin J rv q
  | next =>
    obtain ⟨σ', H', J, q⟩ := hs
    exact fin (v := V.non) (u := Value.none) J rfl q
  | brk =>
    obtain ⟨_, _, _, q⟩ := hs
    exact False.elim q
  | cont =>
    obtain ⟨_, _, _, q⟩ := hs
    exact False.elim q
end Eh

namespace Eh
open PySem PySem.Spec PyProof.Rows L2
section
variable {X : Cx} {o e : Expr} {es : List Expr} {to te : TE} {ta : TA} {f : Str} {p p' p1 p2 pos : Pos}
theorem mk_endN {pins : List (Addr × Obj)} {σ : L2.St} {H1 H2 : Hp} {Q : XK} {hp hp2 h2 : Heap} {g1 g2 : Array GenState} {d1 d2 : Drawn} {t1 t2 : Nat} {os1 os2 : OsState} {a C d : Addr} {fs : List (Str × V)} (T : Raises X (.ref C)) (I1 : Inv X pins σ H1 ⟨hp, g1, d1, t1, os1⟩)
    (ha : hp.objs.size ≤ a) (k : ∀ b o, hp.get? b = some o → hp2.get? b = some o) (un : Un (frs X.stack) [] (upd H1 a (exo a C none)) H2 hp2 h2) (hok : HOk X.prog X.w H2 h2) (ho : os2 = os1) (hb : AllBare g2)
    (ea : H2 a = some (exo a C (some d))) (ed : H2 d = some (exd d fs)) (hd1 : H1 d = none) (q : Q (.ref C) (some d) (upd (del H2 a) d (.xd fs))) : L2N.MkP X pins σ Q (.ref a) ⟨h2, g2, d2, t2, os2⟩ := by
  obtain ⟨t0, G, J, kG, ge, hoe, na⟩ := mk_end0 (d2 := d2) (t2 := t2) I1 ha k un hok ho hb ea ed hd1
  exact ⟨a, _, _, ⟨G, g2, d2, t2, os2⟩, _, .ref C, some d, rfl, J, kG, ge, hoe, ⟨rfl, rfl, fun vs e => by cases e; rfl⟩, rfl, rfl, na, rfl, hb, T, q⟩
theorem pmk_oexN {CX : CXT} {x : Str} {C fI : Addr} {k : Nat} {fd : FuncData} {ps : List Str} {sp : Sp} {ds : List Value} {dvs : List V} (T : OexC X.K C) (iC : PySem.W.findIn X.K (.ref C) "__init__" = some (some (.ref fI))) (tI : PySem.W.typeIn X.K (.ref fI) = some (.type "function"))
    (F1 : FnOk X.prog X.w X.K X.mg X.base CX k fI fd ps sp) (hr : Room (k + 1) X.A) (hb : Binds X.K fd ps ds) (hd : Vals dvs ds) (hx : Passes CX X (fun _ _ _ => False)) (hg : Gl X x) (hm : X.mg x = some (.ref C)) (ha : PA X (e :: es) ta)
    (hdb : (x == ("__debug__" : Str)) = false := by decide) (he : starEach (e :: es) X.env = (false, eval e X.env) :: starEach es X.env := by rfl) (hpl : (backTo pos (starEach es X.env)).any (·.1) = false := by rfl) :
    L2N.PMk X (.Call (.Name x p) (e :: es) [] pos) (tMkO C sp dvs ta) := by
  intro pins s σ H Q I h
  obtain ⟨nm, q, N, bs, bm, sn, sub, ab, col, dd, k0, k1, k2, k3, k5, hC, hbm⟩ := T.cls
  refine wpAny_Call_Name_kw (ld_glob I hg hm ?_ hdb)
  refine PySem.W.callWith_K (h₀ := X.base) I.ok.mod.kin T.kC (thn (ha.run pos pins s σ H _ I h) fun us s1 ⟨vs, H1, I1, r1, hz, q1⟩ => ⟨I1.kIn, ?_⟩) he hpl
  show wpAny _ _ (call (.ref C) us) _ _ _
  obtain ⟨hp, g, dr, tk, os⟩ := s1
  have hsz : hp.objs.size ≤ hp.objs.size + 1 := Nat.le_succ _
  have hn : H1 (hp.objs.size + 1) = none := I1.hok.fresh hsz
  have hq := q1 (hp.objs.size + 1) hn
  have kk : ∀ b o, hp.get? b = some o → ((hp.push (PySem.W.kdv_tup us)).push (PySem.HandSPX.excO C hp.objs.size)).get? b = some o := fun b o e => Heap.get?_push_of_some _ (Heap.get?_push_of_some _ e)
  have hget : ((hp.push (PySem.W.kdv_tup us)).push (PySem.HandSPX.excO C hp.objs.size)).get? (hp.objs.size + 1) = some (PySem.HandSPX.excO C hp.objs.size) := by heap_get
  have I2 : Inv X pins σ (upd H1 (hp.objs.size + 1) (exo (hp.objs.size + 1) C none)) ⟨(hp.push (PySem.W.kdv_tup us)).push (PySem.HandSPX.excO C hp.objs.size), g, dr, tk, os⟩ :=
    I1.laid (t' := tk) (a := hp.objs.size + 1) (o := exo (hp.objs.size + 1) C none) (h' := (hp.push (PySem.W.kdv_tup us)).push (PySem.HandSPX.excO C hp.objs.size)) kk hsz (exo_ok hget)
  have r2 : Vals (V.ref (hp.objs.size + 1) :: (vs ++ dvs)) (Value.ref (hp.objs.size + 1) :: (us ++ ds)) := .cons rfl (r1.append hd)
  have hl : (Value.ref (hp.objs.size + 1) :: us ++ ds).length = ps.length := by
    have e := r2.length
    rw [F1.len _ _ _ _ hq] at e
    exact e.symm
  have hus : us.length ≤ sizeLine := by
    rw [← Paired.length r1, sizeLine_eq]
    omega
  refine wpAny_call (PySem.HandSPX.call_own F.excBase_ValueError (fun Y => PySem.HandSPX.refsVE_contains Y bm hbm) (I1.kIn _ _ hC) (PySem.W.looks_findIn I1.kIn iC) (fun self => PySem.W.bind_fn I1.kIn self tI) hus
    (codeAny_mono (F1.run _ X.stack _ _ ⟨Value.ref (hp.objs.size + 1) :: us, []⟩ (Value.ref (hp.objs.size + 1) :: (us ++ ds)) _ _ (fun _ _ _ => False) (hr.make C us []) (I2.env0.make C us []) (hb _ (Value.ref (hp.objs.size + 1) :: us) I2.kIn hl) r2 hq) fun r s' hq' => ?_))
  cases r with
  | error er => exact hx pins σ _ _ er s' I2 hq'
  | ok fl =>
    cases fl with
    | ret u =>
      obtain ⟨v, H2, os2, bare2, un2, hok2, rv, ev, d, fs, ea, ed, hd1, q2⟩ := hq'
      subst ev
      obtain ⟨h2, g2, d2, t2, os'⟩ := s'
      exact ⟨rv, mk_endN (raises_own T.exC T.tyC) I1 hsz kk un2 hok2 os2 bare2 ea ed hd1 q2⟩
    | next => exact False.elim hq'
    | brk => exact False.elim hq'
    | cont => exact False.elim hq'
end
end Eh

/-! errors with a place of their own: BadRow(place), isinstance(e, ..), e.place -/
namespace Eh
open PySem PySem.Spec PyProof.Rows L2
/-- raise C(te), C an error class whose __init__ keeps its argument as the field arg -/
def tRaiseO (E : XK) (C : Addr) (arg : Str) (te : TE) : TS := fun _ σ H => tMkO C (sp_supinit C arg) [] (tCons te tNil) σ H fun cls d H' => (fun cls d (_ : L2.St) H' => E cls d H') cls d σ H'
section
variable {A : Str → Addr} {C : Pc} {Γ : List Sl} {K : PySem.W.Frag} {B F0 : Hp} {D : Ends} {e : XK} {X : XP} {te : TE} {m : WD}
theorem aw_raiseO (n : Str) {arg : Str} (ha : Ew A C (fun _ => e) te Γ m) (hx : RaiseW A C B F0 e X) (hm : m (fun t => intW t fun i => X n (some [(arg, V.int i)])) X) : At C B F0 Γ (tRaiseO e (A n) arg te D) := fun F H σ w g gm =>
  ha _ X hm B F H σ w gm _ (fun v F1 H1 t g1 w1 ht r1 => by
    unfold intW at ht
    split at ht
    · rename_i i
      obtain rfl : v = V.int i := r1.int_inv
      refine ⟨by show 1 ≤ 1000; decide, fun a hn => ⟨a, V.int i, rfl, upd_same, fun dx hdx hne => ⟨rfl, dx, [(arg, V.int i)], upd_same, by rw [upd_ne hne, upd_same], ?_, ?_⟩⟩⟩
      · rw [upd_ne hne] at hdx; exact hdx
      · rw [upd_ne hne] at hdx
        have e1 : upd (del (upd (upd (upd H1 a (exo a (A n) none)) dx (exd dx [(arg, V.int i)])) a (exo a (A n) (some dx))) a) dx (HO.xd [(arg, V.int i)]) = upd H1 dx (.xd [(arg, V.int i)]) := by
          funext b
          by_cases hb : b = dx
          · rw [hb, upd_same, upd_same]
          · rw [upd_ne hb, upd_ne hb]
            by_cases hba : b = a
            · rw [hba, del_same, hn]
            · rw [del_ne hba, upd_ne hba, upd_ne hb, upd_ne hba]
        show e _ _ _
        rw [e1]
        exact hx F1 _ _ _ n _ (newM_wd w1 hdx) ((g.trans g1).trans (.newM w1.sub hdx)) ht ⟨rfl, dx, rfl, upd_same⟩
    · exact ht.elim) (hx.tt0.xo w g gm)
/-! ### isinstance in a suite -/
def rIsY (K : PySem.W.Frag) (a : Addr) (cls : Value) (d : Option Addr) : List V → Hp → VK → Prop := fun xs H Q => rIsX K a cls d xs H Q ∨ ∃ D dx, cls = .ref D ∧ d = some dx ∧ ExcC K D ∧ rIsED K D a dx xs H Q
theorem call_isY {X : Cx} {a : Addr} {oe : Obj} {cls : Value} {d : Option Addr} {pn : List (Addr × Obj)} (hz : L2N.Zn cls d oe) (hf : ∃ vs, oe.data = .fields vs) : CallR (X.suite a ((a, oe) :: pn)) (.builtin "isinstance") (rIsY X.K a cls d) := by
  intro pins s σ H xs us Q I r h
  rcases h with h | ⟨D, dx, rfl, rfl, C, h⟩
  · exact call_isX hz hf pins s σ H xs us Q I r h
  · exact call_isED C hz.zc hf pins s σ H xs us Q I r h
end
/-- a context in which an error's dict stands -/
def xdC (dx : Addr) (fs : List (Str × V)) : Pc := ⟨[dx], dx, fun H => H dx = some (.xd fs), fun H H' h e => by rw [h dx List.mem_cons_self]; exact e⟩
/-- the error in the suite has no place (none) or the place i -/
def SOk (C : Pc) (pl : Option Int) (d : Option Addr) : Prop := match pl with | none => d = none | some i => ∃ dx, d = some dx ∧ ∀ H, C.PI H → H dx = some (.xd [("place", V.int i)])
def plW (n : Str) (pl : Option Int) (k : DP) : Prop := n = "BadRow" ∧ match pl with | some i => k (.int i) | none => False
section
variable {A : Str → Addr} {C : Pc} {E : L2.St → XK} {Γ : List Sl} {K : PySem.W.Frag} {n X : Str} {xn : List Str} {a : Addr} {d : Option Addr} {pl : Option Int} {i : Nat}
theorem run_isY {cv : Value} {x : V} {b : Bool} {D : Addr} (so : SOk C pl d) (hi : Γ[i]? = some (.ref a)) (hC : ExcC K D) (hk : PySem.W.kitOne K (.ref D) cv = some b) (hx : ∀ u, L2.RelV x u → u = cv) {B F H : Hp} {σ : L2.St} (wd : Wd C F H) (gm : Gm C B F H σ Γ) {Q : VK} (q : Q (.bl b) H) :
    (tCB (rIsY K a (.ref D) d) (tCons (tVar i) (tCons (tC x) tNil))) σ H Q := by
  refine ⟨_, gm.ok i _ hi, ?_⟩
  show rIsY K a (.ref D) d [.ref a, x] H Q
  cases pl with
  | none =>
    obtain rfl : d = none := so
    exact .inl ⟨D, rfl, rfl, hC, x, cv, b, rfl, hx, hk, q⟩
  | some p =>
    obtain ⟨dx, rfl, hp⟩ := so
    exact .inr ⟨D, dx, rfl, rfl, hC, x, cv, b, _, rfl, hx, hk, hp H wd.pi, q⟩
theorem ew_isY (fx : XF A K xn) (so : SOk C pl d) (hi : Γ[i]? = some (.ref a)) : Ew A C E (tCB (rIsY K a (.ref (A n)) d) (tCons (tVar i) (tCons (tC (.ref (A X))) tNil))) Γ (fun P _ => isXW xn n X P) :=
  fun P Y ⟨h1, h2, hm⟩ B F H σ wd gm Q q xo => run_isY (x := .ref (A X)) so hi (fx.exc n h1) (fx.kit n h1 X h2) (fun u r => r) wd gm (q _ F H _ (.refl wd.sub) wd hm (.bl _))
theorem ew_isYV (fx : XF A K xn) (so : SOk C pl d) (hi : Γ[i]? = some (.ref a)) : Ew A C E (tCB (rIsY K a (.ref (A n)) d) (tCons (tVar i) (tCons (tC (.ty "ValueError")) tNil))) Γ (fun P _ => isVW xn n P) :=
  fun P Y ⟨h1, hm⟩ B F H σ wd gm Q q xo => run_isY (x := .ty "ValueError") so hi (fx.exc n h1) (fx.ve n h1) (fun u r => r) wd gm (q _ F H _ (.refl wd.sub) wd hm (.bl _))
theorem ew_pl (so : SOk C pl d) (hi : Γ[i]? = some (.ref a)) : Ew A C E (tXf a (.ref (A n)) d (A "BadRow") "place" (tVar i)) Γ (fun P _ => plW n pl P) :=
  fun P Y hm B F H σ wd gm Q q xo => by
    obtain ⟨rfl, hm⟩ := hm
    cases pl with
    | none => exact hm.elim
    | some p =>
      obtain ⟨dx, rfl, hp⟩ := so
      exact ⟨_, gm.ok i _ hi, rfl, rfl, dx, _, V.int p, rfl, hp H wd.pi, rfl, q _ F H _ (.refl wd.sub) wd hm (.int _)⟩
end
end Eh

namespace Eh
open PySem PySem.Spec PyProof.Rows L2
def sufW (f : Option (List (Str × V))) (k : Option Int → Prop) : Prop := match f with | none => k none | some [(x, .int i)] => x = "place" ∧ k (some i) | _ => False
/-- slots of data and errors alone -/
def datB : List Sl → Bool | [] => true | .no :: r => datB r | .dat _ :: r => datB r | .ref _ :: r => datB r | _ => false
theorem dat_ok : ∀ {Γ : List Sl}, datB Γ = true → ∀ (i : Nat) (s : Sl), Γ[i]? = some s → s = .no ∨ (∃ d, s = .dat d) ∨ ∃ a, s = .ref a
  | [], _, i, s, e => by simp at e
  | t :: r, h, i, s, e => by
    cases i with
    | zero =>
      cases e
      cases t with
      | no => exact .inl rfl
      | dat d => exact .inr (.inl ⟨d, rfl⟩)
      | ref a => exact .inr (.inr ⟨a, rfl⟩)
      | _ => cases h
    | succ i =>
      refine dat_ok (Γ := r) ?_ i s (by simpa using e)
      cases t <;> first | exact h | cases h
/-- data without the object at p -/
def cutF (F : Hp) (p : Addr) : Hp := fun b => if b = p then none else F b
mutual
theorem Rp.cut {F : Hp} {p : Addr} (hl : ∀ xs, F p ≠ some (.lst xs)) (ht : ∀ xs, F p ≠ some (.tup xs)) (hz : ∀ o u, F p ≠ some (.frz o u)) : ∀ {v : V} {d : PyData}, Rp F v d → Rp (cutF F p) v d
  | _, _, .non => .non
  | _, _, .bl b => .bl b
  | _, _, .int i => .int i
  | _, _, .str x => .str x
  | _, _, .lst f a => .lst (by unfold cutF; rw [if_neg (fun e => hl _ (e ▸ f))]; exact f) (RpAll.cut' hl ht hz a)
  | _, _, .tup f a => .tup (by unfold cutF; rw [if_neg (fun e => ht _ (e ▸ f))]; exact f) (RpAll.cut' hl ht hz a)
  | _, _, .dct f => .dct (by unfold cutF; rw [if_neg (fun e => hz _ _ (e ▸ f))]; exact f)
theorem RpAll.cut' {F : Hp} {p : Addr} (hl : ∀ xs, F p ≠ some (.lst xs)) (ht : ∀ xs, F p ≠ some (.tup xs)) (hz : ∀ o u, F p ≠ some (.frz o u)) : ∀ {vs : List V} {ds : List PyData}, RpAll F vs ds → RpAll (cutF F p) vs ds
  | _, _, .nil => .nil
  | _, _, .cons r a => .cons (Rp.cut hl ht hz r) (RpAll.cut' hl ht hz a)
end
section
variable {A : Str → Addr} {Γ : List Sl} {K : PySem.W.Frag} {B F0 F H : Hp} {D : Ends} {i : Nat} {p : Addr} {fs : List (Str × V)} {σ : L2.St} {rt : PyData → Prop}
theorem cut_sub (s : Sub F H) : Sub (cutF F p) H := fun b o e => by
  unfold cutF at e
  split at e
  · cases e
  · exact s b o e
theorem xd_wd (s : Sub F H) (hp : H p = some (.xd fs)) : Wd (xdC p fs) (cutF F p) H := ⟨cut_sub s, hp, fun a ha => by rw [List.mem_singleton.mp ha]; exact if_pos rfl, fun a ha => by rw [List.mem_singleton.mp ha, hp]; exact fun z => nomatch z⟩
theorem xd_gm (w : Wd pc0 F H) (hp : H p = some (.xd fs)) (hd : datB Γ = true) (gm : Gm pc0 B F H σ Γ) : Gm (xdC p fs) H (cutF F p) H σ Γ := by
  have hl : ∀ xs, F p ≠ some (.lst xs) := fun xs e => by have := w.sub _ _ e; rw [hp] at this; cases this
  have ht : ∀ xs, F p ≠ some (.tup xs) := fun xs e => by have := w.sub _ _ e; rw [hp] at this; cases this
  have hz : ∀ o u, F p ≠ some (.frz o u) := fun o u e => by have := w.sub _ _ e; rw [hp] at this; cases this
  refine ⟨gm.len, fun j t e => ?_, fun j m ds es q e2 _ _ _ => ?_⟩
  · have k := gm.ok j t e
    rcases dat_ok hd j t e with rfl | ⟨d, rfl⟩ | ⟨a, rfl⟩
    · trivial
    · obtain ⟨v, a1, a2⟩ := k
      exact ⟨v, a1, a2.cut hl ht hz⟩
    · exact k
  · rcases dat_ok hd j _ e2 with z | ⟨_, z⟩ | ⟨_, z⟩ <;> cases z
theorem xd_ret (w : Wd pc0 F H) (gr : Grow pc0.S F0 B F H) (hp : H p = some (.xd fs)) (hr : RetOk pc0 B F0 D rt) : RetOk (xdC p fs) H (cutF F p) D rt := fun F' H' v d w' g' rd r => by
  have np : F' p = none := w'.sF p List.mem_cons_self
  have pi : H' p = some (.xd fs) := w'.pi
  let F2 : Hp := fun b => if b = p then F p else F' b
  have s2 : Sub F' F2 := fun b o e => by
    show (if b = p then F p else F' b) = some o
    rw [if_neg (fun z => by rw [z, np] at e; cases e)]; exact e
  have sub2 : Sub F2 H' := fun b o e => by
    have e : (if b = p then F p else F' b) = some o := e
    split at e
    · rename_i hb
      have := w.sub _ _ e
      rw [hp] at this
      rw [hb, pi]; exact this
    · exact g'.fh _ _ e
  have g2 : Grow pc0.S F H F2 H' := ⟨fun b o e => by
      show (if b = p then F p else F' b) = some o
      split
      · rename_i hb; rw [← hb]; exact e
      · rename_i hb
        exact g'.ff b o (by unfold cutF; rw [if_neg hb]; exact e), sub2, fun b o _ e => by
      by_cases hb : b = p
      · rw [hb, hp] at e; rw [hb, pi]; exact e
      · exact g'.hh b o (by intro z; exact hb (List.mem_singleton.mp z)) e, g'.th, fun b h1 h2 => by
      show (if b = p then F p else F' b) = none
      split
      · rename_i hb; rw [← hb]; exact h2
      · rename_i hb
        exact g'.nw b h1 (by unfold cutF; rw [if_neg hb]; exact h2)⟩
  exact hr F2 H' v d (wd0 sub2) (gr.trans g2) rd (r.mono s2)
end
end Eh

/-! a try whose suites may ask for the place of a BadRow -/
namespace Eh
open PySem PySem.Spec PyProof.Rows L2
section
variable {A : Str → Addr} {Γ : List Sl} {K : PySem.W.Frag} {B F0 : Hp} {D : Ends} {i i2 : Nat} {J J2 : Str} {xn : List Str} {e : XK} {er : XP} {rt : PyData → Prop} {Hf Hf2 : Str → Option Int → Prop} {g : XP → Prop} {ts ts2 : Addr → Value → Option Addr → TS} {tb : WX → TS}
/-- a suite that ends in a return, with the error at slot i -/
def SuY (A : Str → Addr) (Γ : List Sl) (i : Nat) (rt : PyData → Prop) (Hf : Str → Option Int → Prop) (ts : Addr → Value → Option Addr → TS) : Prop := ∀ C' B' F' D' n a pl d, SOk C' pl d → RetOk C' B' F' D' rt → Hf n pl → At C' B' F' (Γ.set i (.ref a)) (ts a (.ref (A n)) d D')
/-- a suite without a name -/
def SuN (A : Str → Addr) (Γ : List Sl) (rt : PyData → Prop) (Hf : Str → Option Int → Prop) (ts : Addr → Value → Option Addr → TS) : Prop := ∀ C' B' F' D' n a pl d, SOk C' pl d → RetOk C' B' F' D' rt → Hf n pl → At C' B' F' Γ (ts a (.ref (A n)) d D')
theorem suY_go (hd : datB Γ = true) (hr : RetOk pc0 B F0 D rt) (hs : SuY A Γ i rt Hf ts) {F H : Hp} {σ : L2.St} {n : Str} {f : Option (List (Str × V))} {dd : Option Addr} {cv : Value} (w : Wd pc0 F H) (gr : Grow pc0.S F0 B F H) (gm : Gm pc0 B F H σ Γ) (h : sufW f (Hf n)) (hc : XcOk (A n) f cv dd H) (a : Addr) : ts a cv dd (goneE i D) (σ.set i (some (.ref a))) H := by
  unfold sufW at h
  split at h
  · obtain ⟨rfl, h2⟩ := hc
    obtain rfl : dd = none := h2
    exact hs pc0 B F0 (goneE i D) n a none none rfl hr h F H _ w gr (gm.set (s := .ref a) rfl fun _ z => nomatch z)
  · rename_i x p
    obtain ⟨rfl, h⟩ := h
    obtain ⟨rfl, dx, rfl, hp⟩ := hc
    exact hs (xdC dx _) H (cutF F dx) (goneE i D) n a (some p) (some dx) ⟨dx, rfl, fun _ z => z⟩ (xd_ret (D := goneE i D) w gr hp hr) h (cutF F dx) H _ (xd_wd w.sub hp) (.refl (cut_sub w.sub)) ((xd_gm w hp hd gm).set (s := .ref a) rfl fun _ z => nomatch z)
  · exact h.elim
theorem suN_go (hd : datB Γ = true) (hr : RetOk pc0 B F0 D rt) (hs : SuN A Γ rt Hf ts) {F H : Hp} {σ : L2.St} {n : Str} {f : Option (List (Str × V))} {dd : Option Addr} {cv : Value} (w : Wd pc0 F H) (gr : Grow pc0.S F0 B F H) (gm : Gm pc0 B F H σ Γ) (h : sufW f (Hf n)) (hc : XcOk (A n) f cv dd H) (a : Addr) : ts a cv dd D σ H := by
  unfold sufW at h
  split at h
  · obtain ⟨rfl, h2⟩ := hc
    obtain rfl : dd = none := h2
    exact hs pc0 B F0 D n a none none rfl hr h F H _ w gr gm
  · rename_i x p
    obtain ⟨rfl, h⟩ := h
    obtain ⟨rfl, dx, rfl, hp⟩ := hc
    exact hs (xdC dx _) H (cutF F dx) D n a (some p) (some dx) ⟨dx, rfl, fun _ z => z⟩ (xd_ret w gr hp hr) h (cutF F dx) H _ (xd_wd w.sub hp) (.refl (cut_sub w.sub)) (xd_gm w hp hd gm)
  · exact h.elim
theorem aw_tryY (fx : XF A K xn) (hd : datB Γ = true) (hr : RetOk pc0 B F0 D rt) (hx : RaiseW A pc0 B F0 e er) (h : joinW g (fun n f => catchW xn n J (sufW f (Hf n)) (er n f)))
    (hb : ∀ xr W, RaiseT A pc0 B F0 Γ (WE W) xr → g xr → At pc0 B F0 Γ (tb W D))
    (hs : SuY A Γ i rt Hf ts) :
    At pc0 B F0 Γ (tTryC K [(.ref (A J), some i, ts)] (fun cls d _ H => e cls d H) tb D) := by
  refine hb _ (wCls K (fun cls d _ H => e cls d H) D [(.ref (A J), some i, ts)]) (fun F H σ cv dd n f w gr gm hxx hc => ?_) h
  obtain ⟨h1, h2, h3⟩ := hxx
  have hm := fx.exm n h1 J h2
  have e1 : cv = .ref (A n) := hc.1
  cases hsub : subX n J with
  | true =>
    rw [hsub] at h3 hm
    exact ⟨true, by rw [e1]; exact hm, fun _ a ha => suY_go hd hr hs w gr gm h3 hc a, fun z => nomatch z⟩
  | false =>
    rw [hsub] at h3 hm
    exact ⟨false, by rw [e1]; exact hm, (fun z => nomatch z), fun _ => hx F H cv dd n f w gr h3 hc⟩
/-- two clauses, the first with a name -/
theorem aw_tryY2 (fx : XF A K xn) (hd : datB Γ = true) (hr : RetOk pc0 B F0 D rt) (hx : RaiseW A pc0 B F0 e er) (h : joinW g (fun n f => catchW xn n J (sufW f (Hf n)) (catchW xn n J2 (sufW f (Hf2 n)) (er n f))))
    (hb : ∀ xr W, RaiseT A pc0 B F0 Γ (WE W) xr → g xr → At pc0 B F0 Γ (tb W D))
    (hs : SuY A Γ i rt Hf ts) (hs2 : SuN A Γ rt Hf2 ts2) :
    At pc0 B F0 Γ (tTryC K [(.ref (A J), some i, ts), (.ref (A J2), none, ts2)] (fun cls d _ H => e cls d H) tb D) := by
  refine hb _ (wCls K (fun cls d _ H => e cls d H) D [(.ref (A J), some i, ts), (.ref (A J2), none, ts2)]) (fun F H σ cv dd n f w gr gm hxx hc => ?_) h
  obtain ⟨h1, h2, h3⟩ := hxx
  have hm := fx.exm n h1 J h2
  have e1 : cv = .ref (A n) := hc.1
  cases hsub : subX n J with
  | true =>
    rw [hsub] at h3 hm
    exact ⟨true, by rw [e1]; exact hm, fun _ a ha => suY_go hd hr hs w gr gm h3 hc a, fun z => nomatch z⟩
  | false =>
    rw [hsub] at h3 hm
    obtain ⟨_, k2, k3⟩ : catchW xn n J2 (sufW f (Hf2 n)) (er n f) := h3
    have hm2 := fx.exm n h1 J2 k2
    refine ⟨false, by rw [e1]; exact hm, (fun z => nomatch z), fun _ => ?_⟩
    cases hsub2 : subX n J2 with
    | true =>
      rw [hsub2] at k3 hm2
      exact ⟨true, by rw [e1]; exact hm2, fun _ a ha => suN_go hd hr hs2 w gr gm k3 hc a, fun z => nomatch z⟩
    | false =>
      rw [hsub2] at k3 hm2
      exact ⟨false, by rw [e1]; exact hm2, (fun z => nomatch z), fun _ => hx F H cv dd n f w gr k3 hc⟩
/-- one clause without a name -/
theorem aw_tryYn (fx : XF A K xn) (hd : datB Γ = true) (hr : RetOk pc0 B F0 D rt) (hx : RaiseW A pc0 B F0 e er) (h : joinW g (fun n f => catchW xn n J (sufW f (Hf n)) (er n f)))
    (hb : ∀ xr W, RaiseT A pc0 B F0 Γ (WE W) xr → g xr → At pc0 B F0 Γ (tb W D))
    (hs : SuN A Γ rt Hf ts) :
    At pc0 B F0 Γ (tTryC K [(.ref (A J), none, ts)] (fun cls d _ H => e cls d H) tb D) := by
  refine hb _ (wCls K (fun cls d _ H => e cls d H) D [(.ref (A J), none, ts)]) (fun F H σ cv dd n f w gr gm hxx hc => ?_) h
  obtain ⟨h1, h2, h3⟩ := hxx
  have hm := fx.exm n h1 J h2
  have e1 : cv = .ref (A n) := hc.1
  cases hsub : subX n J with
  | true =>
    rw [hsub] at h3 hm
    exact ⟨true, by rw [e1]; exact hm, fun _ a ha => suN_go hd hr hs w gr gm h3 hc a, fun z => nomatch z⟩
  | false =>
    rw [hsub] at h3 hm
    exact ⟨false, by rw [e1]; exact hm, (fun z => nomatch z), fun _ => hx F H cv dd n f w gr h3 hc⟩
end
end Eh

/-! raise BadRow(place): what a law's text needs -/
namespace Eh
open PySem PySem.Spec PyProof.Rows L2
/-- what the text says of an own error whose __init__ keeps its argument -/
structure RowF (P : Program) (w : World) (K : PySem.W.Frag) (mg : Str → Option Value) (base : Heap) (k : Nat) (arg : Str) (C : Addr) : Prop where
  oex : OexC K C
  ex : ∃ f fd, PySem.W.findIn K (.ref C) "__init__" = some (some (.ref f)) ∧ PySem.W.typeIn K (.ref f) = some (.type "function") ∧ FnOk P w K mg base (L2N.CX P w) k f fd ["self", arg] (sp_supinit C arg) ∧ Binds K fd ["self", arg] []
theorem ps_raiseO {X : Cx} {E : XK} {C : Addr} {k j : Nat} {x arg : Str} {e : Expr} {te : TE} {p pos pos2 : Pos} (R : RowF X.prog X.w X.K X.mg X.base k arg C) (hr : Room j X.A) (hk : k + 1 ≤ j) (hc : X.calm = true) (tk : L2N.Takes X (fun cls d _ H => E cls d H)) (hg : Gl X x) (hm : X.mg x = some (.ref C)) (ha : PA X [e] (tCons te tNil))
    (hdb : (x == ("__debug__" : Str)) = false := by decide) (he : starEach [e] X.env = (false, eval e X.env) :: starEach [] X.env := by rfl) (hpl : (backTo pos (starEach [] X.env)).any (·.1) = false := by rfl) :
    PS X (.Raise (some (.Call (.Name x p) [e] [] pos)) none pos2) (tRaiseO E C arg te) := by
  obtain ⟨f, fd, iC, tI, F, b⟩ := R.ex
  exact L2N.ps_raise (W := fun cls d _ H' => E cls d H') hc tk (pmk_oexN R.oex iC tI F (hr.mono hk) b .nil passN hg hm ha hdb he hpl)
/-- for (i, j), c in .. -/
def un22W (x : PyData) (k : PyData → PyData → PyData → Prop) : Prop := un2W x fun p c => un2W p fun i j => k i j c
theorem tg_un22 {Γ : List Sl} {K : PySem.W.Frag} {vs : List Nat} {i j n : Nat} {x : PyData} {k : PyData → PyData → PyData → Prop} (h1 : i ∈ vs) (h2 : j ∈ vs) (h3 : n ∈ vs) (h : un22W x k) :
    ∃ a b c, k a b c ∧ TgD (gTup K 2 (gCons (gTup K 2 (gCons (gName i) (gCons (gName j) gNil))) (gCons (gName n) gNil))) vs Γ x (((Γ.set i (.dat a)).set j (.dat b)).set n (.dat c)) := by
  unfold un22W un2W at h
  split at h
  · split at h
    · refine ⟨_, _, _, h, fun C B F H σ z s g r Q q => ?_⟩
      obtain ⟨a, xs, rfl, f, ra⟩ := Rp.tup_inv r
      cases ra with
      | cons r1 ra =>
        cases ra with
        | cons r3 ra =>
          cases ra
          obtain ⟨a', xs', rfl, f', ra'⟩ := Rp.tup_inv r1
          cases ra' with
          | cons q1 ra' =>
            cases ra' with
            | cons q2 ra' =>
              cases ra'
              refine ⟨a, _, rfl, SqT.of (s _ _ f), rfl, _, _, rfl, a', _, rfl, SqT.of (s _ _ f'), rfl, _, _, rfl, _, _, rfl, rfl, _, _, rfl, rfl, ?_⟩
              exact q _ (((g.dat q1).dat q2).dat r3) (by rw [wipe_set h3, wipe_set h2, wipe_set h1])
    · exact h.elim
  · exact h.elim
end Eh

/-! the head's facts for an error class's __init__ with super(): a hook that sees a method with a closure -/
namespace Eh
open PySem PySem.W PySem.Spec PySem.Calls PyProof.Rows L2
abbrev FnM : Type := Option (Str × Str × Arguments × FuncBody × Scope × Addr × Addr)
def fnM (K : PySem.W.Frag) (f : Addr) : FnM := match K.lookup f with
  | some ⟨_, _, .func fd, _⟩ => some (fd.name, fd.qualname, fd.params, fd.body, fd.scope, fd.globals, fd.builtins)
  | _ => none
def cellB (K : PySem.W.Frag) (C cc : Addr) : Bool := match K.lookup cc with
  | some ⟨_, _, .cell (some (Value.ref D)), _⟩ => decide (D = C)
  | _ => false
def fileB (K : PySem.W.Frag) (fl : Str) (cda : Addr) : Bool := match K.lookup cda with
  | some ⟨_, _, .fields vs, _⟩ => (match vs[2]? with | some (Value.str file _) => decide (file = fl) | _ => false)
  | _ => false
def supB (K : PySem.W.Frag) (C f : Addr) (fl : Str) : Bool := match K.lookup f with
  | some ⟨_, _, .func fd, _⟩ => (match fd.closure, fd.code with
    | [(x, cc)], .ref cda => decide (x = "__class__" ∧ fd.defaults = Value.none) && (PySem.W.codeIn K (.ref cda) fd.qualname && (cellB K C cc && fileB K fl cda))
    | _, _ => false)
  | _ => false
theorem cellB_ok {K : PySem.W.Frag} {C cc : Addr} (h : cellB K C cc = true) : ∃ cl cld csl, K.lookup cc = some ⟨cl, cld, .cell (some (.ref C)), csl⟩ := by
  unfold cellB at h
  split at h
  · rename_i a b D c e
    obtain rfl := of_decide_eq_true h
    exact ⟨_, _, _, e⟩
  · cases h
theorem fileB_ok {K : PySem.W.Frag} {fl : Str} {cda : Addr} (h : fileB K fl cda = true) : ∃ ccl cdd vs ccs tf, K.lookup cda = some ⟨ccl, cdd, .fields vs, ccs⟩ ∧ vs[2]? = some (.str fl tf) := by
  unfold fileB at h
  split at h
  · rename_i a b vs c e
    split at h
    · rename_i file t e2
      obtain rfl := of_decide_eq_true h
      exact ⟨_, _, _, _, _, e, e2⟩
    · cases h
  · cases h
theorem supB_ok {K : PySem.W.Frag} {C f : Addr} {fl nm qual : Str} {params : Arguments} {body : List Stmt} {sc : Scope} (e : fnM K f = some (nm, qual, params, .stmts body, sc, mainGlobals, builtinsNs)) (h : supB K C f fl = true) :
    ∃ oc od cc kV doc pm an cda ct osl, K.lookup f = some ⟨oc, od, .func (fnX nm qual params body sc [("__class__", cc)] .none kV doc pm an (.ref cda) ct), osl⟩ ∧ PySem.W.codeIn K (.ref cda) qual = true ∧ (∃ cl cld csl, K.lookup cc = some ⟨cl, cld, .cell (some (.ref C)), csl⟩) ∧ ∃ ccl cdd vs ccs tf, K.lookup cda = some ⟨ccl, cdd, .fields vs, ccs⟩ ∧ vs[2]? = some (.str fl tf) := by
  unfold supB at h
  unfold fnM at e
  cases lk : K.lookup f with
  | none => rw [lk] at h; cases h
  | some o =>
    rw [lk] at h e
    obtain ⟨oc, od, d, osl⟩ := o
    cases d with
    | func fd =>
      obtain ⟨nm', q', ps', bd', sc', gl', clo, dV, kV, doc, pm, an, cd, ct, bl⟩ := fd
      dsimp only at h e
      split at h
      · rename_i x cc cda
        rw [Bool.and_eq_true, Bool.and_eq_true, Bool.and_eq_true] at h
        obtain ⟨h1, h2, h3, h4⟩ := h
        obtain ⟨rfl, rfl⟩ := of_decide_eq_true h1
        cases e
        exact ⟨oc, od, cc, kV, doc, pm, an, cda, ct, osl, rfl, h2, cellB_ok h3, fileB_ok h4⟩
      · cases h
    | _ => cases h
/-- what the hook looks at: the statics' table, too -/
def asN (g : Addr → Option Obj) (n : Nat) : List Addr := cStatics :: He.asD g n
/-- the hook: facts, defs, further facts, one method -/
def hookM (n : Nat) (fa : List He.Fa) (fn : List He.DefD) (ex : List (PySem.W.Frag → Bool)) (p : Str × Option Str) (v : FnM) : PySem.W.Hook where
  α := (He.AlD × Bool) × FnM
  obs := fun s => ((He.obsD fa fn (He.frG s.heap.get? (asN s.heap.get? n)), ex.all fun f => f (He.frG s.heap.get? (asN s.heap.get? n))), fnM (He.frG s.heap.get? (asN s.heap.get? n)) (He.fAd (He.frG s.heap.get? (asN s.heap.get? n)) p))
  val := fun _ => ((He.valD fn, true), v)
  says := fun _ h => ∃ K : PySem.W.Frag, K.In h ∧ He.SaysD fa fn K ∧ (∀ f ∈ ex, f K = true) ∧ fnM K (He.fAd K p) = v
  of := fun _ _ e => ⟨_, He.frG_in, congrArg (fun z : (He.AlD × Bool) × FnM => z.1.1) e, List.all_eq_true.mp (congrArg (fun z : (He.AlD × Bool) × FnM => z.1.2) e), congrArg (fun z : (He.AlD × Bool) × FnM => z.2) e⟩
  keeps := fun _ _ _ ⟨K, hK, c⟩ k => ⟨K, PySem.W.Frag.In.keeps hK k, c⟩
def obM (n : Nat) (fa : List He.Fa) (fn : List He.DefD) (ex : List (PySem.W.Frag → Bool)) (p : Str × Option Str) (g : Addr → Option Obj) : (He.AlD × Bool) × FnM := ((He.obsD fa fn (He.frG g (asN g n)), ex.all fun f => f (He.frG g (asN g n))), fnM (He.frG g (asN g n)) (He.fAd (He.frG g (asN g n)) p))
theorem obM_eq {n : Nat} {fa : List He.Fa} {fn : List He.DefD} {ex : List (PySem.W.Frag → Bool)} {p : Str × Option Str} {v : FnM} {g : Addr → Option Obj} {s : Shared} (h : ∀ a, g a = s.heap.get? a) : obM n fa fn ex p g = (hookM n fa fn ex p v).obs s := by
  have e : g = s.heap.get? := funext h
  rw [e] <;> rfl
end Eh

/-! OexC by a Bool -/
namespace Eh
open PySem PySem.W PySem.Spec PySem.Calls PyProof.Rows L2
def oexClsB (K : PySem.W.Frag) (C : Addr) : Bool := match K.lookup C with
  | some ⟨.type "type", _, .cls cd, sl⟩ => (match cd.mro, sl.toList with
    | .ref C' :: bm, [_, _, _, _, some (.builtin n), _] => C' == C && n == "ValueError.__new__" && !cd.hasDel && cd.hasDict && PySem.HandSPX.refsVE bm
    | _, _ => false)
  | _ => false
theorem oexClsB_ok {K : PySem.W.Frag} {C : Addr} (q : oexClsB K C = true) : ∃ nm q N bs bm sn sub ab col dd k0 k1 k2 k3 k5, K.lookup C = some (excClassObj nm q C N bs bm true sn sub ab col dd k0 k1 k2 k3 k5 "ValueError.__new__") ∧ PySem.HandSPX.refsVE bm = true := by
  unfold oexClsB at q
  split at q
  · rename_i dd cd sl ho
    split at q
    · rename_i C' bm k0 k1 k2 k3 n k5 hm hs
      rw [Bool.and_eq_true, Bool.and_eq_true, Bool.and_eq_true, Bool.and_eq_true] at q
      obtain ⟨⟨⟨⟨q1, q2⟩, q3⟩, q4⟩, q5⟩ := q
      obtain rfl := eq_of_beq q1
      obtain rfl := eq_of_beq q2
      obtain ⟨nm, bs, mro, ns, qn, hdct, sn, sub, ab, col, hdel⟩ := cd
      obtain ⟨sl⟩ := sl
      dsimp only at hm hs q3 q4
      subst hm hs
      cases hdel with
      | true => cases q3
      | false =>
        subst q4
        exact ⟨_, _, _, _, _, _, _, _, _, _, _, _, _, _, _, ho, q5⟩
    · cases q
  · cases q
def oexB (K : PySem.W.Frag) (C : Addr) : Bool := oexClsB K C && (decide (PySem.W.findIn K (.ref C) "__setattr__" = some (some (.builtin "object.__setattr__"))) && (decide (PySem.W.subIn K (.ref C) (.type "BaseException") = some true) && (decide (PySem.W.typeIn K (.ref C) = some (.type "type")) && PySem.W.keepIn K (.ref C))))
theorem oexB_ok {K : PySem.W.Frag} {C : Addr} (h : oexB K C = true) : OexC K C := by
  unfold oexB at h
  rw [Bool.and_eq_true, Bool.and_eq_true, Bool.and_eq_true, Bool.and_eq_true] at h
  obtain ⟨h1, h2, h3, h4, h5⟩ := h
  exact ⟨oexClsB_ok h1, of_decide_eq_true h2, of_decide_eq_true h3, of_decide_eq_true h4, h5⟩
/-- what else fn_super asks of the class -/
def supCB (K : PySem.W.Frag) (C : Addr) : Bool := decide (mroIn K C (.ref C) = some true) && (decide (ks_superIn K C C "__init__" = some (some (.builtin "ValueError.__init__"))) && (decide (subIn K (.ref C) (.type "ValueError") = some true) && decide (nsIn K cStatics "thirdparty.any" = some none)))
theorem supCB_ok {K : PySem.W.Frag} {C : Addr} (h : supCB K C = true) : mroIn K C (.ref C) = some true ∧ ks_superIn K C C "__init__" = some (some (.builtin "ValueError.__init__")) ∧ subIn K (.ref C) (.type "ValueError") = some true ∧ nsIn K cStatics "thirdparty.any" = some none := by
  unfold supCB at h
  rw [Bool.and_eq_true, Bool.and_eq_true, Bool.and_eq_true] at h
  obtain ⟨h1, h2, h3, h4⟩ := h
  exact ⟨of_decide_eq_true h1, of_decide_eq_true h2, of_decide_eq_true h3, of_decide_eq_true h4⟩
end Eh

/-! RowF from the head's facts -/
namespace Eh
open PySem PySem.W PySem.Spec PySem.Calls PyProof.Rows L2
theorem rowF_of {P : Program} {w : World} {K : PySem.W.Frag} {mg : Str → Option Value} {base : Heap} {f C : Addr} {arg qual fl : Str} {params : Arguments} {sc : Scope} {p0 p1 p2 p3 p4 p5 p6 p7 p8 p9 : Pos} {body : List Stmt}
    (hbody : body = [.Expr (.Call (.Attribute (.Call (.Name "super" p0) [] [] p1) "__init__" p2) [.Name arg p3] [] p4) p5, .Assign [.Attribute (.Name "self" p6) arg p7] (.Name arg p8) p9])
    (e : fnM K f = some (("__init__" : Str), qual, params, FuncBody.stmts body, sc, mainGlobals, builtinsNs)) (hs : supB K C f fl = true) (ho : oexB K C = true) (hc : supCB K C = true)
    (hf : findIn K (.ref C) "__init__" = some (some (.ref f))) (ht : typeIn K (.ref f) = some (.type "function")) (hno : findIn K (.ref C) arg = some none) (hm : mg "super" = none)
    (hP : ((P.main.file : Str) == fl) = true) (htop : (P.main.scope.names.lookup ("super" : Str)).isSome = false) (S : NdefX.NScope ["self", arg, "__class__"] ["self", arg] ["__class__"] sc)
    (ks : sc.names.lookup ("super" : Str) = some .globalImplicit) (kc : sc.names.lookup ("__class__" : Str) = some .free) (kme : sc.names.lookup ("self" : Str) = some .local) (karg : sc.names.lookup arg = some .local) (kind : sc.kind = .function)
    (hpar : ∃ ar, (params.posonlyargs ++ params.args).head? = some ar ∧ ar.arg = "self") (hd : (arg == ("__debug__" : Str)) = false) (hd4 : (arg == ("__classdict__" : Str)) = false)
    (he : ∀ L cda cc : Addr, ∃ pl : Sem Bool, eval (.Call (.Attribute (.Call (.Name "super" p0) [] [] p1) "__init__" p2) [.Name arg p3] [] p4) (envX qual sc L f (.ref cda) [("__class__", cc)]) = (do
      let ov ← attributeBase (.Call (.Name "super" p0) [] [] p1) "__init__" (envX qual sc L f (.ref cda) [("__class__", cc)]) (eval (.Call (.Name "super" p0) [] [] p1) (envX qual sc L f (.ref cda) [("__class__", cc)]))
      standAt p2.atName
      let (g, first) ← holding [ov] (getMethod ov "__init__" pl)
      callWith p4 g first (backTo p4 (starEach [.Name arg p3] (envX qual sc L f (.ref cda) [("__class__", cc)]))) []))
    (hia : ∀ L cda cc : Addr, interactive (envX qual sc L f (.ref cda) [("__class__", cc)]) = false)
    (hsw : ∀ L cda cc : Addr, swapsWith (.Call (.Attribute (.Call (.Name "super" p0) [] [] p1) "__init__" p2) [.Name arg p3] [] p4) none p5.line (envX qual sc L f (.ref cda) [("__class__", cc)]) = pure false)
    (hsw2 : ∀ L cda cc : Addr, swapsWith (.Name arg p8) (some (.Attribute (.Name "self" p6) arg p7)) p9.line (envX qual sc L f (.ref cda) [("__class__", cc)]) = pure false)
    (hbind : ∀ (kV doc pm : Value) (an : Option Addr) (cda cc : Addr) (ct : Value) (us : List Value), us.length = 2 → bindArgs (fnX "__init__" qual params body sc [("__class__", cc)] .none kV doc pm an (.ref cda) ct) ⟨us, []⟩ = pure ([("self" : Str), arg].zip us)) :
    RowF P w K mg base 1 arg C := by
  obtain ⟨oc, od, cc, kV, doc, pm, an, cda, ct, osl, lk, hcd, cell, ccl, cdd, vs, ccs, tf, lk2, hv⟩ := supB_ok e hs
  obtain ⟨c1, c2, c3, c4⟩ := supCB_ok hc
  obtain ⟨ar, a1, a2⟩ := hpar
  have SC : SupC K P mg C cc cda f sc "self" arg := ⟨oexB_ok ho, ⟨oc, od, _, osl, ar, lk, a1, a2⟩, ⟨ccl, cdd, vs, ccs, fl, tf, lk2, hv, hP⟩, htop, cell, c1, c2, c3, c4, hm, ks, kc, kme, karg, kind⟩
  exact ⟨oexB_ok ho, f, _, hf, ht, fn_super (k := 0) hbody lk hcd S SC hno hd (by decide) (by decide) hd4 (fun L => he L cda cc) (fun L => hia L cda cc) (fun L => hsw L cda cc) (fun L => hsw2 L cda cc), Binds.all fun us hl => hbind kV doc pm an cda cc ct us hl⟩
end Eh

/-! a text some times over; tuples by < -/
namespace Eh
open PySem PySem.Spec PyProof.Rows L2
def repS (s : Str) (n : Int) : Str := if n < 1 then Str.empty else if (n == 1 || s.length == 0) = true then s else ⟨(List.replicate n.toNat s.cps).foldl (· ++ ·) #[]⟩
def rMulS : R2 := fun x y H Q => ∃ (s : Str) (j : Int), x = .str s ∧ y = .int j ∧ (-1000 ≤ j ∧ j ≤ 1000 ∧ s.length ≤ 100) ∧ Q (.str (repS s j)) H
theorem rep_size (a : Array Nat) : ∀ (n : Nat) (b : Array Nat), ((List.replicate n a).foldl (· ++ ·) b).size = b.size + n * a.size
  | 0, b => by simp
  | n + 1, b => by rw [List.replicate_succ, List.foldl_cons, rep_size a n, Array.size_append, Nat.succ_mul]; omega
theorem oMulS {X : Cx} : OpR X (binaryOp .Mult) rMulS := by
  intro pins s σ H x y v u Q I rx ry h
  obtain ⟨z, j, rfl, rfl, ⟨h0, h1, h2⟩, q⟩ := h
  obtain ⟨t, rfl⟩ := rx
  obtain ⟨t', rfl⟩ := ry
  have hl : ¬ j < 1 → z.length * j.toNat ≤ sizeLine := fun hj => by
    have h7 : z.length * j.toNat ≤ 100 * 1000 := Nat.mul_le_mul h2 (by omega)
    exact Nat.le_trans h7 (by decide)
  refine P.mul_str (by rw [decide_eq_false (by omega), decide_eq_false (by omega)]; rfl) (fun hj _ hg => ?_) (fun hj _ => ?_) ?_
  · have h3 : (9223372036854775807 : Int) / j ≥ 100 := by
      refine (Int.le_ediv_iff_mul_le (by omega)).mpr ?_
      omega
    have h4 : ((2 ^ 63 - 1 : Int)) = 9223372036854775807 := by decide
    rw [h4] at hg
    omega
  · exact decide_eq_false (by have := hl hj; omega)
  · unfold repS at q
    by_cases c1 : j < 1
    · rw [if_pos c1] at q ⊢
      exact ⟨by decide, .str _, H, I.tok _, ⟨_, rfl⟩, q⟩
    · rw [if_neg c1] at q ⊢
      by_cases c2 : (j == 1 || z.length == 0) = true
      · rw [if_pos c2] at q ⊢
        exact ⟨.str z, H, I, ⟨t, rfl⟩, q⟩
      · rw [if_neg c2] at q ⊢
        refine ⟨?_, .str _, H, I.tok _, ⟨_, rfl⟩, q⟩
        show ((List.replicate j.toNat z.cps).foldl (· ++ ·) #[]).size ≤ _
        rw [rep_size]
        have := hl c1
        have e : z.length = z.cps.size := rfl
        rw [e, Nat.mul_comm] at this
        simpa using this
abbrev mulSW : OpW := fun x y k => match x, y with | .str s, .int j => -1000 ≤ j ∧ j ≤ 1000 ∧ s.length ≤ 100 ∧ k (.str (repS s j)) | _, _ => False
theorem ov_mulS : RVw rMulS mulSW := fun x y k hk => by
  unfold mulSW at hk
  split at hk
  · obtain ⟨h1, h2, h3, h4⟩ := hk
    exact ⟨_, h4, fun F H v u s r1 r2 Q q => by rw [r1.str_inv, r2.int_inv]; exact ⟨_, _, rfl, rfl, ⟨h1, h2, h3⟩, q _ F H (.refl s) (.str _)⟩⟩
  · exact hk.elim
/-! < of tuples of numbers -/
def rLtA (K : PySem.W.Frag) : R2 := fun x y H Q => rLtI x y H Q ∨ rLtT K x y H Q
theorem oLtA {X : Cx} (hu : X.A.units < cLine) : OpR X (compareOp .Lt) (rLtA X.K) := oLt.or (op_ltT hu)
def ltAW : OpW := fun x y k => match x, y with
  | .int i, .int j => k (.bool (decide (i < j)))
  | .tuple xs, .tuple ys => ∃ ns ms : List Int, xs = ns.map .int ∧ ys = ms.map .int ∧ k (.bool (HT.lexLt ns ms))
  | _, _ => False
theorem ov_ltA {K : PySem.W.Frag} : RVw (rLtA K) ltAW := fun x y k hk => by
  unfold ltAW at hk
  split at hk
  · exact ⟨_, hk, fun F H v u s r1 r2 Q q => by rw [r1.int_inv, r2.int_inv]; exact .inl ⟨_, _, rfl, rfl, q _ F H (.refl s) (.bl _)⟩⟩
  · obtain ⟨ns, ms, rfl, rfl, hk⟩ := hk
    refine ⟨_, hk, fun F H v u s r1 r2 Q q => ?_⟩
    obtain ⟨a, us, rfl, f1, ra⟩ := r1.tup_inv
    obtain ⟨b, vs, rfl, f2, rb⟩ := r2.tup_inv
    rw [ra.ints] at f1
    rw [rb.ints] at f2
    exact .inr ⟨a, b, ns, ms, rfl, rfl, SqT.of (s _ _ f1), SqT.of (s _ _ f2), q _ F H (.refl s) (.bl _)⟩
  · exact hk.elim
end Eh

/-! sum, max, min of a tuple of numbers -/
namespace Eh
open PySem PySem.Spec PyProof.Rows L2
section
variable {prog : Program} {w : World} {A : Around} {E : Value → Shared → Prop} {s : Shared} {l : Addr} {xs : Array (Int × Tok)} {its : List Value} {ns : List Int} {Q : Value → Shared → Prop}
theorem iter_intTup (hl : s.heap.IsTuple l (intItems xs))
    (h : ∀ s₂ : Shared, s₂ = { s with heap := s.heap.push { cls := .type "tuple_iterator", data := .fields #[.ref l, .int 0 0] } } →
      (s₂.heap.IsTupleIter s.heap.objs.size l 0 ∧ s₂.heap.IsTuple l (intItems xs)) → (∀ b ∈ [s.heap.objs.size, l], b < s₂.heap.objs.size) → l ≠ s.heap.objs.size → Q (.ref s.heap.objs.size) s₂) :
    wpAny (model prog w) A (pyIter (.ref l)) Q E s := by
  have hlt : l < s.heap.objs.size := by obtain ⟨_, e, _⟩ := hl; exact Heap.lt_size e
  refine wpAny_pyIter_tuple hl (h _ rfl ⟨⟨_, Heap.get?_push_size _ rfl, rfl, rfl⟩, hl.push _⟩ (fun b hb => ?_) (Nat.ne_of_lt hlt))
  show b < (s.heap.push _).objs.size
  rw [Heap.size_push]
  rcases List.mem_cons.mp hb with rfl | hb
  · exact Nat.lt_succ_self _
  · rw [List.mem_singleton.mp hb]; exact Nat.lt_succ_of_lt hlt
theorem old_keptT {h' : Heap} (hk : ∀ b o, b ∉ [s.heap.objs.size] → (s.heap.push { cls := .type "tuple_iterator", data := .fields #[.ref l, .int 0 0] }).get? b = some o → h'.get? b = some o) :
    ∀ b o, s.heap.get? b = some o → h'.get? b = some o := fun b o e => hk b o (fun hm => absurd (List.mem_singleton.mp hm ▸ Heap.lt_size e) (Nat.lt_irrefl _)) (Heap.get?_push_of_some _ e)
theorem max_tupRaw (hh : A.handled = none) (hl : s.heap.IsTuple l its.toArray) (hi : IntsAre its ns) (hne : 0 < ns.length)
    (h : ∀ h' tk M t', (∀ b o, s.heap.get? b = some o → h'.get? b = some o) → M ∈ ns → (∀ a, a ∈ ns → a ≤ M) → Q (.int M t') { s with heap := h', toks := tk }) : wpAny (model prog w) A (call (.builtin "max") [.ref l]) Q E s := by
  obtain ⟨xs, e⟩ := hi.allInts.items
  have hn : numsOf (intItems xs).toList = ns := by rw [← e]; exact hi.numsOf
  rw [nums_intItems] at hn
  subst hn
  rw [e] at hl
  have hsz : 0 < xs.size := by simpa using hne
  refine call_max_walk (iter_intTup hl fun s₂ e st hfp hlI => ?_)
  subst e
  refine ⟨_, _, _, _, _, _, _, rfl, Walks.tuple (A := A.in1) hh _ l hlI (intItems xs), st, hfp, by simpa [intItems] using hsz, CmpOf.ints_gt (numAt xs) (fun _ _ => intItems_at), fun v h' tk hv hk => ?_⟩
  have hk := old_keptT hk
  simp only [intItems, Array.size_map] at hv
  obtain ⟨t, rfl⟩ := intItems_at hv
  obtain ⟨h1, h2⟩ := argBest_gt (numAt xs) (xs.size - 1)
  refine h h' tk _ t hk ?_ fun a ha => ?_
  · rw [numAt_eq]; exact PySem.getD_mem (by rw [List.length_map, Array.length_toList]; omega)
  · obtain ⟨j, hj, rfl⟩ := mem_getD ha
    rw [List.length_map, Array.length_toList] at hj
    rw [← numAt_eq]; exact h2 j (by omega)
theorem min_tupRaw (hh : A.handled = none) (hl : s.heap.IsTuple l its.toArray) (hi : IntsAre its ns) (hne : 0 < ns.length)
    (h : ∀ h' tk M t', (∀ b o, s.heap.get? b = some o → h'.get? b = some o) → M ∈ ns → (∀ a, a ∈ ns → M ≤ a) → Q (.int M t') { s with heap := h', toks := tk }) : wpAny (model prog w) A (call (.builtin "min") [.ref l]) Q E s := by
  obtain ⟨xs, e⟩ := hi.allInts.items
  have hn : numsOf (intItems xs).toList = ns := by rw [← e]; exact hi.numsOf
  rw [nums_intItems] at hn
  subst hn
  rw [e] at hl
  have hsz : 0 < xs.size := by simpa using hne
  refine call_min_walk (iter_intTup hl fun s₂ e st hfp hlI => ?_)
  subst e
  refine ⟨_, _, _, _, _, _, _, rfl, Walks.tuple (A := A.in1) hh _ l hlI (intItems xs), st, hfp, by simpa [intItems] using hsz, CmpOf.ints_lt (numAt xs) (fun _ _ => intItems_at), fun v h' tk hv hk => ?_⟩
  have hk := old_keptT hk
  simp only [intItems, Array.size_map] at hv
  obtain ⟨t, rfl⟩ := intItems_at hv
  obtain ⟨h1, h2⟩ := argBest_lt (numAt xs) (xs.size - 1)
  refine h h' tk _ t hk ?_ fun a ha => ?_
  · rw [numAt_eq]; exact PySem.getD_mem (by rw [List.length_map, Array.length_toList]; omega)
  · obtain ⟨j, hj, rfl⟩ := mem_getD ha
    rw [List.length_map, Array.length_toList] at hj
    rw [← numAt_eq]; exact h2 j (by omega)
theorem sum_tupRaw (hh : A.handled = none) (hl : s.heap.IsTuple l its.toArray) (hi : IntsAre its ns)
    (h : ∀ h' tk t', (∀ b o, s.heap.get? b = some o → h'.get? b = some o) → Q (.int ns.sum t') { s with heap := h', toks := tk }) : wpAny (model prog w) A (call (.builtin "sum") [.ref l]) Q E s := by
  obtain ⟨xs, e⟩ := hi.allInts.items
  have hn : numsOf (intItems xs).toList = ns := by rw [← e]; exact hi.numsOf
  rw [nums_intItems] at hn
  rw [e] at hl
  refine PySem.W.ktm_sumG hh hl fun h' tk t' hk => ?_
  have := h h' tk t' hk
  rw [preSum_eq, List.take_of_length_le (by simp), hn]; exact this
end
section
variable {X : Cx}
def rSumA (K : PySem.W.Frag) : List V → Hp → VK → Prop := fun vs H Q => ∃ (a : Addr) (ns : List Int), vs = [V.ref a] ∧ (SqL K H a (ns.map V.int) ∨ SqT K H a (ns.map V.int)) ∧ Q (.int ns.sum) H
def rMaxA (K : PySem.W.Frag) : List V → Hp → VK → Prop := fun vs H Q => ∃ (a : Addr) (ns : List Int), vs = [V.ref a] ∧ (SqL K H a (ns.map V.int) ∨ SqT K H a (ns.map V.int)) ∧ 0 < ns.length ∧ ∀ m, m ∈ ns → (∀ y, y ∈ ns → y ≤ m) → Q (.int m) H
def rMinA (K : PySem.W.Frag) : List V → Hp → VK → Prop := fun vs H Q => ∃ (a : Addr) (ns : List Int), vs = [V.ref a] ∧ (SqL K H a (ns.map V.int) ∨ SqT K H a (ns.map V.int)) ∧ 0 < ns.length ∧ ∀ m, m ∈ ns → (∀ y, y ∈ ns → m ≤ y) → Q (.int m) H
theorem cr_sumA (hc : X.calm = true) : CallR X (.builtin "sum") (rSumA X.K) := by
  intro pins s σ H vs us Q I r h
  obtain ⟨a, ns, rfl, hs, q⟩ := h
  rw [Vals.ref1 r]
  rcases hs with hs | hs
  · obtain ⟨its, rv, hl, _⟩ := I.list hs
    exact sum_raw (I.ok.hd hc) hl.isList rv.ints fun h' tk t' hk => ⟨.int _, H, I.kept hk, ⟨_, rfl⟩, q⟩
  · obtain ⟨its, rv, hl, _⟩ := I.tuple hs
    exact sum_tupRaw (I.ok.hd hc) hl rv.ints fun h' tk t' hk => ⟨.int _, H, I.kept hk, ⟨_, rfl⟩, q⟩
theorem cr_maxA (hc : X.calm = true) : CallR X (.builtin "max") (rMaxA X.K) := by
  intro pins s σ H vs us Q I r h
  obtain ⟨a, ns, rfl, hs, hne, q⟩ := h
  rw [Vals.ref1 r]
  rcases hs with hs | hs
  · obtain ⟨its, rv, hl, _⟩ := I.list hs
    exact max_raw (I.ok.hd hc) hl.isList rv.ints hne fun h' tk m t' hk h1 h2 => ⟨.int _, H, I.kept hk, ⟨_, rfl⟩, q m h1 h2⟩
  · obtain ⟨its, rv, hl, _⟩ := I.tuple hs
    exact max_tupRaw (I.ok.hd hc) hl rv.ints hne fun h' tk m t' hk h1 h2 => ⟨.int _, H, I.kept hk, ⟨_, rfl⟩, q m h1 h2⟩
theorem cr_minA (hc : X.calm = true) : CallR X (.builtin "min") (rMinA X.K) := by
  intro pins s σ H vs us Q I r h
  obtain ⟨a, ns, rfl, hs, hne, q⟩ := h
  rw [Vals.ref1 r]
  rcases hs with hs | hs
  · obtain ⟨its, rv, hl, _⟩ := I.list hs
    exact min_raw (I.ok.hd hc) hl.isList rv.ints hne fun h' tk m t' hk h1 h2 => ⟨.int _, H, I.kept hk, ⟨_, rfl⟩, q m h1 h2⟩
  · obtain ⟨its, rv, hl, _⟩ := I.tuple hs
    exact min_tupRaw (I.ok.hd hc) hl rv.ints hne fun h' tk m t' hk h1 h2 => ⟨.int _, H, I.kept hk, ⟨_, rfl⟩, q m h1 h2⟩
end
section
variable {A : Str → Addr} {C : Pc} {E : L2.St → XK} {Γ : List Sl} {K : PySem.W.Frag} {ta : TE} {l : WL}
/-- read as a row: a list or a tuple -/
theorem ew_scb {r : List V → Hp → VK → Prop} {f : List PyData → DP → Prop} (hr : ∀ xs k, f xs k → ∃ d, k d ∧ ∀ (F H : Hp) (p : Addr) (vs : List V), (H p = some (.lst vs) ∨ H p = some (.tup vs)) → RpAll F vs xs → ∀ Q : VK, (∀ z, Rp F z d → Q z H) → r [.ref p] H Q) (h : Sw A C E ta Γ l) :
    Ew A C E (tCB r (tCons ta tNil)) Γ (fun P X => l (fun xs => f xs P) X) :=
  fun P X hm B F H σ wd g Q q xo => h _ X hm B F H σ wd g _ (fun v F1 H1 xs g1 w1 h1 ⟨p, vs, e, _, hl, ra⟩ => by
    subst e
    obtain ⟨d, pd, k⟩ := hr xs P h1
    exact k F1 H1 p vs hl ra Q fun z rz => q z F1 H1 d g1 w1 pd rz) xo
theorem ew_sumA (h : Sw A C E ta Γ l) : Ew A C E (tCB (rSumA K) (tCons ta tNil)) Γ (fun P X => l (fun xs => sumW xs P) X) :=
  ew_scb (fun xs k ⟨ns, e, hk⟩ => ⟨_, hk, fun F H p vs hl ra Q q => by subst e; rw [ra.ints] at hl; exact ⟨p, ns, rfl, hl.imp SqL.of SqT.of, q _ (.int _)⟩⟩) h
theorem ew_maxA (h : Sw A C E ta Γ l) : Ew A C E (tCB (rMaxA K) (tCons ta tNil)) Γ (fun P X => l (fun xs => maxW xs P) X) :=
  ew_scb (fun xs k ⟨ns, m, e, h1, h2, hk⟩ => ⟨_, hk, fun F H p vs hl ra Q q => by
    subst e
    rw [ra.ints] at hl
    refine ⟨p, ns, rfl, hl.imp SqL.of SqT.of, List.length_pos_of_mem h1, fun k hk hl => ?_⟩
    have e : k = m := Int.le_antisymm (h2 k hk) (hl m h1)
    subst e
    exact q _ (.int _)⟩) h
theorem ew_minA (h : Sw A C E ta Γ l) : Ew A C E (tCB (rMinA K) (tCons ta tNil)) Γ (fun P X => l (fun xs => minW xs P) X) :=
  ew_scb (fun xs k ⟨ns, m, e, h1, h2, hk⟩ => ⟨_, hk, fun F H p vs hl ra Q q => by
    subst e
    rw [ra.ints] at hl
    refine ⟨p, ns, rfl, hl.imp SqL.of SqT.of, List.length_pos_of_mem h1, fun k hk hl => ?_⟩
    have e : k = m := Int.le_antisymm (hl m h1) (h2 k hk)
    subst e
    exact q _ (.int _)⟩) h
end
end Eh

/-! list(reversed(x)), x a list or a tuple; range with a step -/
namespace Eh
open PySem PySem.Spec PyProof.Rows L2 RT
theorem nolen_lri : typeLookup (.type "list_reverseiterator") "__len__" = pure none := by rw [typeLookup_type, builtinLookup_eq_fast]; kernel_rfl
theorem hint_lri : typeLookup (.type "list_reverseiterator") "__length_hint__" = pure (some (.builtin "list_reverseiterator.__length_hint__")) := by rw [typeLookup_type, builtinLookup_eq_fast]; kernel_rfl
section
variable {prog : Program} {w : World} {A : Around} {E : Value → Shared → Prop} {s : Shared}
theorem hintLri {it l : Addr} {items : Array Value} {Q : Bool → Shared → Prop} (hit : s.heap.IsRevIter it l ((items.size : Int) - 1)) (ht : s.heap.IsList l items) (hz : items.size ≤ 16777216)
    (q : ∀ b tk, Q b { s with toks := tk }) : wpAny (model prog w) A (Builtin.List.listLengthHint (.ref it)) Q E s := by
  have hT := hit.typeIs
  obtain ⟨o, ho, hc, hd⟩ := id hit
  obtain ⟨ol, hol, hcl, nl, hdl⟩ := id ht
  unfold Builtin.List.listLengthHint
  refine wpAny_bind (wpAny_specialOf hT nolen_lri ?_)
  show wpAny _ A (specialOf (Value.ref it) (Str.ofString "__length_hint__") >>= _) _ _ _
  refine wpAny_bind (wpAny_specialOf hT hint_lri ?_)
  generalize hid : ("list_reverseiterator.__length_hint__" : String) = id0
  wp_delta
  rw [show splitId id0 = some ("list_reverseiterator", "__length_hint__") from by subst hid; decide +kernel]
  subst hid
  refine wpAny_bind (wpAny_isInstance (b := true) hT (by rw [isSubtype_type]; kernel_rfl) ?_)
  refine wpAny_ite_split (fun hab => absurd hab (by decide)) (fun _ => ?_)
  refine wpAny_ite_split (fun _ => ?_) (fun hab => absurd (by decide +kernel) hab)
  refine wpAny_ite_split (fun hab => absurd hab (by decide +kernel)) (fun _ => ?_)
  exact wpAny_pure (q false s.toks)
end
/-- list(reversed(x)), x a list or a tuple -/
def tListRevA (K : PySem.W.Frag) (te : TE) : TE := fun σ H Q => te σ H fun v H1 => ∃ (a : Addr) (xs : List V), v = .ref a ∧ (SqT K H1 a xs ∨ SqL K H1 a xs) ∧ xs.length ≤ 100000 ∧ ∀ q, H1 q = none → Q (.ref q) (upd H1 q (.lst xs.reverse))
theorem pe_listRevA {X : Cx} {e : Expr} {te : TE} {p p2 pos pos2 : Pos} (hc : X.calm = true) (hg : Gl X "list") (hm : X.mg "list" = none) (hg2 : Gl X "reversed") (hm2 : X.mg "reversed" = none) (he : PE X e te)
    (hs : starEach [e] X.env = (false, eval e X.env) :: starEach [] X.env := by rfl)
    (hs2 : starEach [.Call (.Name "reversed" p2) [e] [] pos2] X.env = (false, eval (.Call (.Name "reversed" p2) [e] [] pos2) X.env) :: starEach [] X.env := by rfl) :
    PE X (.Call (.Name "list" p) [.Call (.Name "reversed" p2) [e] [] pos2] [] pos) (tListRevA X.K te) := by
  refine ⟨fun pins s σ H Q I h => ?_⟩
  refine Call_ (ld_blt I hg hm boot_list (PyProof.Rows.callWith_type1 (args_cons (Call_ (ld_blt I hg2 hm2 PyProof.Rows.boot_reversed (PyProof.Rows.callWith_type1 (args_cons (thn (he.run pins s σ H _ I h) fun u s1 ⟨v, H1, I1, r1, q1⟩ => args_nil ?_) hs) hs rfl))) hs2) hs2 rfl))
  obtain ⟨a, xs, ev, hq, hlen, q⟩ := q1
  subst ev
  obtain rfl : u = Value.ref a := r1
  rcases hq with hq | hq
  · obtain ⟨its, rv, p', hz⟩ := I1.tuple hq
    have hl := rv.length
    have hn63 := line63
    refine call_reversed_tup p' (fun A E Q k => len_tuple p' (by simp only [List.size_toArray] <;> omega) k) (args_nil ?_)
    have k0 : ∀ b o, s1.heap.get? b = some o → (s1.heap.push (rtObj a ((its.toArray.size : Int) - 1))).get? b = some o := fun b o e => Heap.get?_push_of_some _ e
    have I2 : Inv X pins σ H1 { s1 with heap := s1.heap.push (rtObj a ((its.toArray.size : Int) - 1)), toks := s1.toks + 1 + 1 } := I1.kept (t' := s1.toks + 1 + 1) k0
    obtain ⟨f0, f1, f2, f3, f4, f5⟩ := I1.fpOk (H' := H1) (b := s1.heap.objs.size) (Nat.le_refl _) (I1.hok.fresh (Nat.le_refl _))
    obtain ⟨ot, hot, hrt⟩ := id p'
    have hal := Heap.lt_size hot
    have hne : a ≠ s1.heap.objs.size := Nat.ne_of_lt hal
    have hn : its.toArray.size ≤ sizeLine := by rw [List.size_toArray, ← rv.length]; exact hz
    have hsz : (s1.heap.push (rtObj a ((its.toArray.size : Int) - 1))).objs.size = s1.heap.objs.size + 1 := Heap.size_push ..
    have hit : IsRt (s1.heap.push (rtObj a ((its.toArray.size : Int) - 1))) s1.heap.objs.size a ((its.toArray.size : Int) - 1 - ((0 : Nat) : Int)) := ⟨_, Heap.get?_push_size _ rfl, rfl, by simp [rtObj]⟩
    refine call_list_it (s := { s1 with heap := s1.heap.push (rtObj a ((its.toArray.size : Int) - 1)), toks := s1.toks + 1 + 1 }) (T := "reversed") (fun A hh => walksRt hh s1.heap.objs.size a hne its.toArray hn) (I1.ok.hd hc) hn ⟨_, Heap.get?_push_size _ rfl, rfl⟩ (by decide) (by decide)
      (fun A s' Q E st q => ?_) ⟨Nat.zero_le _, hit, ⟨ot, k0 _ _ hot, hrt⟩⟩ (by simp) (fun b hb => ?_) fun h' tk acc c' hk hS hi => ?_
    · refine hintRt (items := its.toArray) (by have z := st.2.1; simpa using z) st.2.2 (by simp only [List.size_toArray]; omega) (fun A E s2 Q p2 k => len_tuple p2 (by simp only [List.size_toArray] <;> omega) (k _ _)) q
    · rcases List.mem_cons.mp hb with e | e
      · rw [e, hsz]; exact Nat.lt_succ_self _
      · rw [List.mem_singleton.mp e, hsz]; exact Nat.lt_succ_of_lt hal
    · have J : Inv X pins σ (upd H1 (s1.heap.push (rtObj a ((its.toArray.size : Int) - 1))).objs.size (.lst xs.reverse)) { s1 with heap := h', toks := tk } := by
        refine I2.turnedNew (ch := [s1.heap.objs.size]) (fun b o hb e => hk b o hb e) (fun b hb => ?_) (Nat.le_refl _) (show ObjOk X.prog X.w _ _ _ (.lst xs.reverse) from ⟨by rw [List.length_reverse]; exact hz, acc.toList, c', vals_rev rv hi, ?_⟩)
        · rw [List.mem_singleton.mp hb]; exact ⟨f0, f1, f2, f3, f4, f5⟩
        · rw [Array.toArray_toList]; exact hS
      exact ⟨.ref _, _, J, rfl, q _ (I2.hok.fresh (Nat.le_refl _))⟩
  · obtain ⟨its, rv, p', hz⟩ := I1.list hq
    have hl := rv.length
    refine call_reversed_list p'.isList (args_nil ?_)
    have k0 : ∀ b o, s1.heap.get? b = some o → (s1.heap.push (revObj a ((its.toArray.size : Int) - 1))).get? b = some o := fun b o e => Heap.get?_push_of_some _ e
    have I2 : Inv X pins σ H1 { s1 with heap := s1.heap.push (revObj a ((its.toArray.size : Int) - 1)) } := I1.kept (t' := s1.toks) k0
    obtain ⟨f0, f1, f2, f3, f4, f5⟩ := I1.fpOk (H' := H1) (b := s1.heap.objs.size) (Nat.le_refl _) (I1.hok.fresh (Nat.le_refl _))
    have hil := p'.isList
    obtain ⟨ol, hol, hrl⟩ := id hil
    have hal := Heap.lt_size hol
    have hne : a ≠ s1.heap.objs.size := Nat.ne_of_lt hal
    have hn : its.toArray.size ≤ sizeLine := by rw [List.size_toArray, ← rv.length]; exact hz
    have hsz : (s1.heap.push (revObj a ((its.toArray.size : Int) - 1))).objs.size = s1.heap.objs.size + 1 := Heap.size_push ..
    have hit : (s1.heap.push (revObj a ((its.toArray.size : Int) - 1))).IsRevIter s1.heap.objs.size a ((its.toArray.size : Int) - 1 - ((0 : Nat) : Int)) := ⟨_, Heap.get?_push_size _ rfl, rfl, by simp [revObj]⟩
    refine call_list_it (s := { s1 with heap := s1.heap.push (revObj a ((its.toArray.size : Int) - 1)) }) (T := "list_reverseiterator") (fun A hh => Walks.listRev hh s1.heap.objs.size a hne its.toArray) (I1.ok.hd hc) hn ⟨_, Heap.get?_push_size _ rfl, rfl⟩ (by decide) (by decide)
      (fun A s' Q E st q => ?_) ⟨Nat.zero_le _, hit, ⟨ol, k0 _ _ hol, hrl⟩⟩ (by simp) (fun b hb => ?_) fun h' tk acc c' hk hS hi => ?_
    · exact hintLri (items := its.toArray) (by have z := st.2.1; simpa using z) st.2.2 (by simp only [List.size_toArray]; omega) q
    · rcases List.mem_cons.mp hb with e | e
      · rw [e, hsz]; exact Nat.lt_succ_self _
      · rw [List.mem_singleton.mp e, hsz]; exact Nat.lt_succ_of_lt hal
    · have J : Inv X pins σ (upd H1 (s1.heap.push (revObj a ((its.toArray.size : Int) - 1))).objs.size (.lst xs.reverse)) { s1 with heap := h', toks := tk } := by
        refine I2.turnedNew (ch := [s1.heap.objs.size]) (fun b o hb e => hk b o hb e) (fun b hb => ?_) (Nat.le_refl _) (show ObjOk X.prog X.w _ _ _ (.lst xs.reverse) from ⟨by rw [List.length_reverse]; exact hz, acc.toList, c', vals_rev rv hi, ?_⟩)
        · rw [List.mem_singleton.mp hb]; exact ⟨f0, f1, f2, f3, f4, f5⟩
        · rw [Array.toArray_toList]; exact hS
      exact ⟨.ref _, _, J, rfl, q _ (I2.hok.fresh (Nat.le_refl _))⟩
section
variable {A : Str → Addr} {C : Pc} {E : L2.St → XK} {Γ : List Sl} {K : PySem.W.Frag} {ta : TE} {l : WL} {ma mb mc : WD} {tb tc : TE}
def revLW (xs : List PyData) (k : List PyData → Prop) : Prop := xs.length ≤ 100000 ∧ k xs.reverse
theorem nw_revA (h : Sw A C E ta Γ l) : Nw A C E (tListRevA K ta) Γ (fun P X => l (fun xs => revLW xs P) X) :=
  fun P X hm B F H σ wd g Q q xo => h _ X hm B F H σ wd g _ (fun v F1 H1 xs g1 w1 h1 ⟨p, vs, e, n, hl, ra⟩ => by
    subst e
    obtain ⟨hz, hk⟩ := h1
    exact ⟨p, vs, rfl, hl.symm.imp SqT.of SqL.of, by rw [ra.length]; exact hz, fun b hb => q _ F1 _ _ (g1.trans (.newM w1.sub hb)) (newM_wd w1 hb) hk ⟨b, _, rfl, g1.fresh hb, w1.sub.none hb, fun z => w1.sH b z hb, upd_same, ra.reverse⟩⟩) xo
/-- range(i, j, -1) -/
def rgDn (i j : Int) : List PyData := (List.range (i - j).toNat).map fun k : Nat => .int (i - k)
def rng3W (x y z : PyData) (k : List PyData → Prop) : Prop := match x, y, z with | .int i, .int j, .int c => c = -1 ∧ -100000 ≤ i ∧ i ≤ 100000 ∧ j ≤ 100000 ∧ -100000 ≤ j ∧ k (rgDn i j) | _, _, _ => False
theorem wk_rngD {F F2 H2 : Hp} (i : Int) (n : Nat) (s2 : Sub F2 H2) : (∀ k d, ((List.range n).map fun k : Nat => PyData.int (i - k))[k]? = some d → (Itc i (-1) n).go k H2 ∧ ∀ x H', (Itc i (-1) n).yld k H2 x H' → ∃ F', Grow [] F2 H2 F' H' ∧ Rp F' x d) ∧ (Itc i (-1) n).stop ((List.range n).map fun k : Nat => PyData.int (i - k)).length H2 := by
  refine ⟨fun k d e => ?_, by show n ≤ _; simp⟩
  rw [List.getElem?_map] at e
  by_cases hi : k < n
  · rw [List.getElem?_range hi] at e
    cases e
    refine ⟨hi, fun x H' ⟨e1, e2⟩ => ?_⟩
    subst e1 e2
    rw [show i + ((k : Nat) : Int) * (-1) = i - (k : Int) by omega]
    exact ⟨F2, .refl s2, .int _⟩
  · rw [List.getElem?_eq_none (by simpa using hi)] at e; cases e
theorem fw_rng3 (ha : Ew A C E ta Γ ma) (hb : Ew A C E tb Γ mb) (hc : Ew A C E tc Γ mc) : Fw A C E (iRng3 (tCons ta (tCons tb (tCons tc tNil)))) Γ (fun P X => ma (fun x => mb (fun y => mc (fun z => rng3W x y z P) X) X) X) := fun P X hm B F H σ wd g R r xo =>
  ha _ X hm B F H σ wd g _ (fun v F1 H1 x g1 w1 h1 r1 => hb _ X h1 B F1 H1 σ w1 (g.grow g1) _ (fun u F2 H2 y g2 w2 h2 r2 => hc _ X h2 B F2 H2 σ w2 ((g.grow g1).grow g2) _ (fun u3 F3 H3 z g3 w3 h3 r3 => by
    unfold rng3W at h3
    split at h3
    · rename_i i j c
      obtain ⟨rfl, k1, k2, k3, k4, k5⟩ := h3
      rw [Rp.int_inv r1, Rp.int_inv r2, Rp.int_inv r3]
      exact ⟨i, j, -1, _, rfl, RgC.neg (by omega) (by omega) (by omega) (by omega), r _ F3 H3 _ ((g1.trans g2).trans g3) w3 k5 fun F4 H4 s1 s2 => wk_rngD (F := F4) i (i - j).toNat s2⟩
    · exact h3.elim) ((xo.go g1).go g2)) (xo.go g1)) xo
end
end Eh

/-! dicts of numbers: an own one while it is written to, data from when it is handed on (locked for good) -/
namespace Eh
open PySem PySem.Spec PyProof.Rows L2
/-- a value locked for good -/
def tFrz (te : TE) : TE := fun σ H Q => te σ H fun v H1 => ∃ (p : Addr) (u : HO), v = .ref p ∧ H1 p = some u ∧ Mut (some u) ∧ ∀ o : Obj, Q v (upd H1 p (.frz o u))
theorem pe_frz {X : Cx} {e : Expr} {te : TE} (h : PE X e te) : PE X e (tFrz te) := ⟨fun pins s σ H Q I hw => thn (h.run pins s σ H _ I hw) fun v s1 ⟨x, H1, I1, r1, p, u, e, hp, mu, q⟩ => by
  obtain ⟨o, I2⟩ := I1.lock hp mu
  exact ⟨x, _, I2, r1, q o⟩⟩
abbrev eD (kvs : List (Int × Int)) : List (PyData × PyData) := kvs.map fun p => (.int p.1, .int p.2)
def valI (kvs : List (Int × Int)) (k : Int) : Option Int := (kvs.find? fun p => decide (p.1 = k)).map (·.2)
def putI (kvs : List (Int × Int)) (k v : Int) : List (Int × Int) := if (kvs.any fun p => decide (p.1 = k)) = true then kvs.map (fun p => if p.1 = k then (p.1, v) else p) else kvs ++ [(k, v)]
theorem valV_kD (kvs : List (Int × Int)) (k : Int) : valV (kD kvs) (Sum.inl k : Key) = (valI kvs k).map V.int := by
  induction kvs with
  | nil => rfl
  | cons p r ih =>
    by_cases e : p.1 = k
    · rw [show kD (p :: r) = (Sum.inl p.1, V.int p.2) :: kD r from rfl, valV_pos (by rw [e])]
      unfold valI
      rw [List.find?_cons, decide_eq_true e]; rfl
    · rw [show kD (p :: r) = (Sum.inl p.1, V.int p.2) :: kD r from rfl, valV_neg (fun z => e (by cases z; rfl)), ih]
      unfold valI
      rw [List.find?_cons, decide_eq_false e]
theorem putK_kD (kvs : List (Int × Int)) (k v : Int) : putK (kD kvs) (Sum.inl k : Key) (V.int v) = kD (putI kvs k v) := by
  have e1 : ((kD kvs).any fun kv => decide (kv.1 = (Sum.inl k : Key))) = kvs.any fun p => decide (p.1 = k) := by
    rw [List.any_map]
    refine congrArg (fun f => List.any kvs f) (funext fun p => decide_eq_decide.mpr ⟨fun z => by cases z; rfl, fun z => by show (Sum.inl p.1 : Key) = _; rw [z]⟩)
  unfold putK putI
  rw [e1]
  split
  · show ((kvs.map _).map _) = ((kvs.map _).map _)
    rw [List.map_map, List.map_map]
    refine List.map_congr_left fun p _ => ?_
    show (if (Sum.inl p.1 : Key) = Sum.inl k then ((Sum.inl p.1 : Key), V.int v) else (Sum.inl p.1, V.int p.2)) = ((Sum.inl (if p.1 = k then (p.1, v) else p).1 : Key), V.int (if p.1 = k then (p.1, v) else p).2)
    by_cases e : p.1 = k
    · rw [if_pos e, if_pos (by rw [e])]
    · rw [if_neg e, if_neg (fun z => e (by cases z; rfl))]
  · show _ = (kvs ++ [(k, v)]).map _
    rw [List.map_append]; rfl
theorem eD_inj {a b : List (Int × Int)} (h : eD a = eD b) : a = b := by
  induction a generalizing b with
  | nil => cases b with
    | nil => rfl
    | cons => cases h
  | cons p r ih => cases b with
    | nil => cases h
    | cons q s =>
      have h1 : ((PyData.int p.1, PyData.int p.2) : PyData × PyData) = (PyData.int q.1, PyData.int q.2) := (List.cons.inj h).1
      have e : p = q := by
        obtain ⟨p1, p2⟩ := p
        obtain ⟨q1, q2⟩ := q
        cases h1; rfl
      rw [e, ih (List.cons.inj h).2]
theorem Rp.dct_inv {F : Hp} {v : V} {kvs : List (Int × Int)} (r : Rp F v (.dict (eD kvs))) : ∃ a o, v = .ref a ∧ F a = some (.frz o (.dK (kD kvs))) := by
  generalize hd : PyData.dict (eD kvs) = d at r
  cases r with
  | @dct a o kvs' h =>
    have : kvs = kvs' := eD_inj (PyData.dict.inj hd)
    subst this
    exact ⟨a, o, rfl, h⟩
  | _ => cases hd
abbrev WK := MW (List (Int × Int))
def dctW (d : PyData) (k : List (Int × Int) → Prop) : Prop := ∃ kvs, d = .dict (eD kvs) ∧ k kvs
abbrev dgetW (kvs : List (Int × Int)) (x y : PyData) (k : DP) : Prop := match x, y with | .int i, .int j => k (.int ((valI kvs i).getD j)) | _, _ => False
def dixW (kvs : List (Int × Int)) (x : PyData) (k : DP) : Prop := match x with | .int i => ∃ v, valI kvs i = some v ∧ k (.int v) | _ => False
abbrev dkeysW (kvs : List (Int × Int)) (k : List PyData → Prop) : Prop := k (kvs.map fun p => .int p.1)
def dputW (kvs : List (Int × Int)) (x y : PyData) (k : List (Int × Int) → Prop) : Prop := match x, y with | .int i, .int j => kvs.length < 100000 ∧ k (putI kvs i j) | _, _ => False
abbrev dfzW (kvs : List (Int × Int)) (k : DP) : Prop := k (.dict (eD kvs))
def RKs (C : Pc) : Hp → Hp → V → List (Int × Int) → Hp → Hp → Prop := fun _ _ v kvs _ H' => ∃ p, v = .ref p ∧ p ∉ C.S ∧ (H' p = some (.dK (kD kvs)) ∨ ∃ o, H' p = some (.frz o (.dK (kD kvs))))
section
variable {A : Str → Addr} {C : Pc} {E : L2.St → XK} {Γ Γ' : List Sl} {K : PySem.W.Frag} {w : World} {te ta tb ty tv : TE} {m ma mb my mv : WD} {l : WK} {i j : Nat} {kvs : List (Int × Int)} {B F0 : Hp} {N0 : L2.St → Hp → Prop} {r0 : VK} {b0 c0 : L2.St → Hp → Prop} {X : XP}
abbrev Kw (A : Str → Addr) (C : Pc) (E : L2.St → XK) (te : TE) (Γ : List Sl) (m : WK) : Prop := Jw A C E te Γ (RKs C) m
theorem kw_own (h : Γ[i]? = some (.dct kvs)) : Kw A C E (tVar i) Γ (fun P _ => P kvs) := fun P X hm B F H σ wd g Q q _ => by
  obtain ⟨p, e, l, f, b, n⟩ := g.ok i _ h
  exact ⟨_, e, q _ F H kvs (.refl wd.sub) wd hm ⟨p, rfl, n, .inl l⟩⟩
theorem Ew.k (h : Ew A C E te Γ m) : Kw A C E te Γ (fun P X => m (fun d => dctW d P) X) := fun P X hm B F H σ wd g Q q xo =>
  h _ X hm B F H σ wd g _ (fun v F1 H1 d g1 w1 ⟨kvs, e, hk⟩ r => by
    subst e
    obtain ⟨a, o, rfl, f⟩ := r.dct_inv
    exact q _ F1 H1 kvs g1 w1 hk ⟨a, rfl, (fun z => by rw [w1.sF a z] at f; cases f), .inr ⟨o, w1.sub _ _ f⟩⟩) xo
theorem rd_of {H : Hp} {p : Addr} {u : HO} (h : H p = some u ∨ ∃ o, H p = some (.frz o u)) : Rd H p u := h
theorem hh_or {S : List Addr} {F H F' H' : Hp} {p : Addr} {u : HO} (g : Grow S F H F' H') (n : p ∉ S) (h : H p = some u ∨ ∃ o, H p = some (.frz o u)) : H' p = some u ∨ ∃ o, H' p = some (.frz o u) :=
  h.imp (g.hh p _ n) fun ⟨o, e⟩ => ⟨o, g.hh p _ n e⟩
theorem ew_dget (hd : Kw A C E te Γ l) (ha : Ew A C E ta Γ ma) (hb : Ew A C E tb Γ mb) : Ew A C E (tDGet2 te ta tb) Γ (fun P X => l (fun kvs => ma (fun x => mb (fun y => dgetW kvs x y P) X) X) X) := fun P X hm B F H σ wd g Q q xo =>
  hd _ X hm B F H σ wd g _ (fun v F1 H1 kvs g1 w1 h1 ⟨p, e, n, hp⟩ => by
    subst e
    refine ⟨p, rfl, .inl ⟨_, rd_of hp⟩, ha _ X h1 B F1 H1 σ w1 (g.grow g1) _ (fun x F2 H2 d2 g2 w2 h2 r2 => hb _ X h2 B F2 H2 σ w2 ((g.grow g1).grow g2) _ (fun y F3 H3 d3 g3 w3 h3 r3 => ?_) ((xo.go g1).go g2)) (xo.go g1)⟩
    unfold dgetW at h3
    split at h3
    · rename_i a b
      rw [r2.int_inv, r3.int_inv]
      refine ⟨(valI kvs a).map V.int, .inl ⟨_, Sum.inl a, rd_of (hh_or g3 n (hh_or g2 n hp)), rfl, (valV_kD kvs a).symm⟩, ?_⟩
      have : ((valI kvs a).map V.int).getD (.int b) = .int ((valI kvs a).getD b) := by cases valI kvs a <;> rfl
      rw [this]
      exact q _ F3 H3 _ ((g1.trans g2).trans g3) w3 h3 (.int _)
    · exact h3.elim) xo
theorem ew_dix (hd : Kw A C E te Γ l) (ha : Ew A C E ta Γ ma) : Ew A C E (tDGet te ta) Γ (fun P X => l (fun kvs => ma (fun x => dixW kvs x P) X) X) := fun P X hm B F H σ wd g Q q xo =>
  hd _ X hm B F H σ wd g _ (fun v F1 H1 kvs g1 w1 h1 ⟨p, e, n, hp⟩ => by
    subst e
    refine ha _ X h1 B F1 H1 σ w1 (g.grow g1) _ (fun x F2 H2 d2 g2 w2 h2 r2 => ?_) (xo.go g1)
    unfold dixW at h2
    split at h2
    · rename_i a
      obtain ⟨z, hz, hk⟩ := h2
      rw [r2.int_inv]
      exact ⟨p, .int z, rfl, .inl ⟨_, Sum.inl a, rd_of (hh_or g2 n hp), rfl, by rw [valV_kD, hz]; rfl⟩, q _ F2 H2 _ (g1.trans g2) w2 hk (.int _)⟩
    · exact h2.elim) xo
/-- {i: j}, as data -/
theorem ew_dspI {a b : Int} : Ew A C E (tFrz (tDisp [(tC (.int a), tC (.int b))])) Γ (fun P _ => P (.dict (eD [(a, b)]))) := fun P X hm B F H σ wd g Q q xo => fun p hp =>
  ⟨upd_same, [(Sum.inl a, V.int b)], rfl, Nat.le_of_ble_eq_true rfl, p, _, rfl, upd_same, trivial, fun o => by
    have e : upd (upd (upd H p (.dK [])) p (.dK (mergeK [] [(Sum.inl a, V.int b)]))) p (.frz o (.dK (mergeK [] [(Sum.inl a, V.int b)]))) = upd H p (.frz o (.dK (kD [(a, b)]))) := by
      funext c
      by_cases z : c = p
      · subst z; rw [upd_same, upd_same]; rfl
      · rw [upd_ne z, upd_ne z, upd_ne z, upd_ne z]
    rw [e]
    have gn : Grow [] F H (upd F p (.frz o (.dK (kD [(a, b)])))) (upd H p (.frz o (.dK (kD [(a, b)])))) := .new wd.sub hp
    exact q _ _ _ _ gn.weak (wd.grow gn) hm (.dct upd_same)⟩
/-- the only own dict -/
def dctOne (Γ : List Sl) (i : Nat) : Bool := (List.range Γ.length).all fun k => decide (k = i) || match Γ[k]? with | some (.dct _) => false | _ => true
theorem one_ok {k : Nat} {kv : List (Int × Int)} (h : dctOne Γ i = true) (e : Γ[k]? = some (.dct kv)) : k = i := by
  have hk : k < Γ.length := (List.getElem?_eq_some_iff.mp e).1
  have := List.all_eq_true.mp h k (List.mem_range.mpr hk)
  rw [e, Bool.or_false, decide_eq_true_eq] at this
  exact this
/-- the own dict's object is changed, the slot becomes s -/
theorem Gm.mutD {C : Pc} {B F H : Hp} {σ : L2.St} {p : Addr} {o : HO} {s : Sl} (g : Gm C B F H σ Γ) (h : Γ[i]? = some (.dct kvs)) (one : dctOne Γ i = true) (hp : σ[i]? = some (some (.ref p))) (hs : ∀ ds, s ≠ .own ds) (F' : Hp) (sF : Sub F F') (nF : ∀ q, q ≠ p → F' q = F q)
    (ok : SlOk C B F' (upd H p o) σ[i]? s) : Gm C B F' (upd H p o) σ (Γ.set i s) := by
  obtain ⟨p', e', h', f', b', n'⟩ := g.ok i _ h
  have ep : p' = p := by rw [hp] at e'; cases e'; rfl
  subst ep
  have il : i < Γ.length := (List.getElem?_eq_some_iff.mp h).1
  refine ⟨by rw [List.length_set, g.len], fun j t e => ?_, fun j k ds es q e1 e2 e3 e4 => ?_⟩
  · rw [List.getElem?_set] at e
    by_cases hj : i = j
    · subst hj
      rw [if_pos rfl, if_pos il] at e
      cases e
      exact ok
    · rw [if_neg hj] at e
      have k := g.ok j t e
      cases t with
      | no => trivial
      | dat d => obtain ⟨v, a1, a2⟩ := k; exact ⟨v, a1, a2.mono sF⟩
      | own fs =>
        obtain ⟨q, us, a1, a2, a3, a4, a5, a6⟩ := k
        have nq : q ≠ p' := fun z => by
          subst z
          have z2 := a2.symm.trans h'
          cases z2
        exact ⟨q, us, a1, (upd_ne nq).trans a2, by rw [nF q nq]; exact a3, a4, a5, a6.mono sF⟩
      | dct kv => exact absurd (one_ok one e) (Ne.symm hj)
      | pool => exact k
      | fz K a xs =>
        refine ⟨k.1, k.2.imp (fun ⟨o, h, n⟩ => ⟨o, ?_, n⟩) id⟩
        have na : a ≠ p' := fun z => by
          subst z
          have z2 := h.symm.trans h'
          cases z2
        exact (upd_ne na).trans h
      | ref a => exact k
  · have ne : ∀ (m : Nat) (xs : List PyData), (Γ.set i s)[m]? = some (Sl.own xs) → Γ[m]? = some (Sl.own xs) := fun m xs z => by
      rw [List.getElem?_set] at z
      by_cases hm : i = m
      · subst hm; rw [if_pos rfl, if_pos il] at z; exact absurd (Option.some.inj z) (hs xs)
      · rw [if_neg hm] at z; exact z
    exact g.inj j k ds es q (ne j ds e1) (ne k es e2) e3 e4
theorem aw_newD (hΓ : Γ.set i (.dct []) = Γ') (k : At C B F0 Γ' N0) : At C B F0 Γ (tAsg tDNewK (gName i) (Ends.mk N0 r0 b0 c0)) := fun F H σ w g e p hp => by
  have g1 : Grow C.S F H F (upd H p (.dK [])) := .newM w.sub hp
  refine k F _ _ (newM_wd w hp) (g.trans g1) ?_
  rw [← hΓ]
  exact (e.grow g1).set ⟨p, rfl, upd_same, w.sub.none hp, g.fresh hp, fun z => w.sH p z hp⟩ fun _ z => nomatch z
theorem aw_putD {Γ' : List (Int × Int) → List Sl} {P : List (Int × Int) → Prop} (hi : Γ[i]? = some (.dct kvs)) (one : dctOne Γ i = true) (hΓ : ∀ kv, Γ.set i (.dct kv) = Γ' kv) (hv : Ew A C E tv Γ mv) (hy : Ew A C E ty Γ my) (hx : RaiseT A C B F0 Γ E X)
    (hm : mv (fun v => my (fun y => dputW kvs y v P) X) X) (k : ∀ kv, P kv → At C B F0 (Γ' kv) N0) : At C B F0 Γ (sDPut (tVar i) ty tv (Ends.mk N0 r0 b0 c0)) := fun F H σ w g e => by
  obtain ⟨p, e1, hl, hf, hb, hs⟩ := e.ok i _ hi
  refine hv _ X hm B F H σ w e _ (fun v F1 H1 d g1 w1 pd rv => ⟨_, e1, hy _ X pd B F1 H1 σ w1 (e.grow g1) _ (fun u F2 H2 n g2 w2 pn ru => ?_) ((hx.xo w g e).go g1)⟩) (hx.xo w g e)
  unfold dputW at pn
  split at pn
  · rename_i a b
    obtain ⟨hz, pk⟩ := pn
    have g12 := g1.trans g2
    have hl1 := g12.hh _ _ hs hl
    have hf1 := g12.nw p (by rw [hl]; exact fun z => nomatch z) hf
    have e2 : Gm C B F2 H2 σ Γ := e.grow g12
    rw [Rp.int_inv ru, Rp.int_inv rv]
    refine ⟨p, _, rfl, .inl ⟨kD kvs, Sum.inl a, hl1, rfl, by rw [List.length_map]; exact size_lt hz, rfl⟩, ?_⟩
    rw [putK_kD]
    refine k _ pk F2 _ σ (w2.mut hs hf1) ((g.trans g12).mut hb hf1) ?_
    rw [← hΓ]
    exact e2.mutD (s := .dct (putI kvs a b)) hi one e1 (fun _ z => nomatch z) F2 (.refl _) (fun _ _ => rfl) ⟨p, e1, upd_same, hf1, hb, hs⟩
  · exact pn.elim
/-- the own dict handed on: y = x -/
theorem aw_moveD (hi : Γ[i]? = some (.dct kvs)) (one : dctOne Γ i = true) (hΓ : (Γ.set i .no).set j (.dat (.dict (eD kvs))) = Γ') (k : At C B F0 Γ' N0) : At C B F0 Γ (tAsg (tFrz (tVar i)) (gName j) (Ends.mk N0 r0 b0 c0)) := fun F H σ w g e => by
  obtain ⟨p, e1, hl, hf, hb, hs⟩ := e.ok i _ hi
  refine ⟨_, e1, p, _, rfl, hl, trivial, fun o => ?_⟩
  have g1 := g.mut (o := .frz o (.dK (kD kvs))) hb hf
  have w1 := w.mut (o := .frz o (.dK (kD kvs))) hs hf
  have g2 := g1.freeze hb upd_same hf
  have w2 := w1.freeze hs upd_same hf
  refine k _ _ _ w2 g2 ?_
  rw [← hΓ]
  refine Gm.dat (e.mutD hi one e1 (s := .no) (fun _ z => nomatch z) (upd F p (.frz o (.dK (kD kvs)))) (Sub.new hf) (fun q hq => upd_ne hq) trivial) (.dct upd_same)
/-! walks over the keys -/
theorem fw_keys {m : WD} (h : Ew A C E te Γ m) : Fw A C E (iKeys te) Γ (fun P X => m (fun d => dctW d fun kvs => dkeysW kvs P) X) := fun P X hm B F H σ wd g R r xo => h _ X hm B F H σ wd g _ (fun v F1 H1 d g1 w1 ⟨kvs, e, hk⟩ r1 => by
  subst e
  obtain ⟨a, o, rfl, f⟩ := r1.dct_inv
  refine ⟨a, o, rfl, .inl ⟨kD kvs, w1.sub _ _ f, r _ F1 H1 _ g1 w1 hk fun F2 H2 s1 s2 => ?_⟩⟩
  have hf := s2 _ _ (s1 _ _ f)
  refine ⟨fun i d e => ?_, hf, by simp⟩
  rw [List.getElem?_map] at e
  cases q : kvs[i]? with
  | none => rw [q] at e; cases e
  | some p =>
    rw [q] at e
    cases e
    refine ⟨⟨hf, by rw [List.length_map]; exact (List.getElem?_eq_some_iff.mp q).1⟩, fun x H' ⟨e1, kk, vv, e2, e3⟩ => ?_⟩
    subst e1 e3
    rw [List.getElem?_map, q] at e2
    cases e2
    exact ⟨F2, .refl s2, .int _⟩) xo
end
end Eh

namespace Eh
open PySem PySem.Spec PyProof.Rows L2
/-! ### plain laws of the readings over data -/
theorem ite_ok {b : Bool} {p q : Prop} (h1 : b = true → p) (h2 : b = false → q) : iteW b p q := by cases b; exact h2 rfl; exact h1 rfl
theorem nt {b : Bool} (h : (!b) = true) : b = false := by cases b; rfl; cases h
theorem nf {b : Bool} (h : (!b) = false) : b = true := by cases b; cases h; rfl
theorem iteT {b : Bool} {p q : Prop} (e : b = true) (h : p) : iteW b p q := by rw [e]; exact h
theorem iteF {b : Bool} {p q : Prop} (e : b = false) (h : q) : iteW b p q := by rw [e]; exact h
section
variable {α β σ : Type}
theorem lcGo_ok {enc f : α → PyData} {p : α → Bool} {body : PyData → DP → Prop → Prop} : ∀ {xs : List α} {k : List PyData → Prop}, (∀ x ∈ xs, ∀ Y N, (p x = true → Y (f x)) → (p x = false → N) → body (enc x) Y N) → k ((xs.filter p).map f) → lcGo body (xs.map enc) k
  | [], k, _, hk => hk
  | x :: xs, k, hb, hk => by
    refine hb x List.mem_cons_self _ _ (fun hp => ?_) fun hp => ?_
    · refine lcGo_ok (fun y hy => hb y (List.mem_cons_of_mem _ hy)) ?_
      rw [List.filter_cons, if_pos hp] at hk; exact hk
    · refine lcGo_ok (fun y hy => hb y (List.mem_cons_of_mem _ hy)) ?_
      rw [List.filter_cons, if_neg (by rw [hp]; exact Bool.false_ne_true)] at hk; exact hk
theorem lc_ok {xs : List α} (enc f : α → PyData) (p : α → Bool) {body : PyData → DP → Prop → Prop} {k : List PyData → Prop} (hz : xs.length ≤ 100000) (hb : ∀ x ∈ xs, ∀ Y N, (p x = true → Y (f x)) → (p x = false → N) → body (enc x) Y N) (hk : k ((xs.filter p).map f)) : lcW (xs.map enc) body k :=
  ⟨by rw [List.length_map]; exact hz, lcGo_ok hb hk⟩
theorem lcM_ok {xs : List α} (enc f : α → PyData) {body : PyData → DP → Prop} {k : List PyData → Prop} (hz : xs.length ≤ 100000) (hb : ∀ x ∈ xs, ∀ Y, Y (f x) → body (enc x) Y) (hk : k (xs.map f)) : lcMW (xs.map enc) body k :=
  lc_ok enc f (fun _ => true) hz (fun x hx Y N h1 _ => hb x hx Y (h1 rfl)) (by rw [List.filter_eq_self.mpr fun _ _ => rfl]; exact hk)
/-- items whose values are drawn -/
theorem lcMGo_any {enc : α → PyData} {e : β → PyData} {Q : α → β → Prop} {body : PyData → DP → Prop} : ∀ {xs : List α} {k : List PyData → Prop}, (∀ x ∈ xs, ∀ Y, (∀ r, Q x r → Y (e r)) → body (enc x) Y) →
    (∀ rs : List β, rs.length = xs.length → (∀ (i : Nat) x r, xs[i]? = some x → rs[i]? = some r → Q x r) → k (rs.map e)) → lcGo (fun x Y _ => body x Y) (xs.map enc) k
  | [], k, _, hk => hk [] rfl fun i x r e => by simp at e
  | x :: xs, k, hb, hk => hb x List.mem_cons_self _ fun r hr => lcMGo_any (fun y hy => hb y (List.mem_cons_of_mem _ hy)) fun rs hl h => hk (r :: rs) (by rw [List.length_cons, List.length_cons, hl]) fun i y s e1 e2 => by
    cases i with
    | zero => cases e1; cases e2; exact hr
    | succ i => exact h i y s (by simpa using e1) (by simpa using e2)
theorem lcM_any {xs : List α} (enc : α → PyData) (e : β → PyData) (Q : α → β → Prop) {body : PyData → DP → Prop} {k : List PyData → Prop} (hz : xs.length ≤ 100000) (hb : ∀ x ∈ xs, ∀ Y, (∀ r, Q x r → Y (e r)) → body (enc x) Y)
    (hk : ∀ rs : List β, rs.length = xs.length → (∀ (i : Nat) x r, xs[i]? = some x → rs[i]? = some r → Q x r) → k (rs.map e)) : lcMW (xs.map enc) body k :=
  ⟨by rw [List.length_map]; exact hz, lcMGo_any hb hk⟩
/-- .. which items are let is drawn -/
theorem lcGo_any {enc f : α → PyData} {T : α → Bool → Prop} {body : PyData → DP → Prop → Prop} : ∀ {xs : List α} {k : List PyData → Prop}, xs.Nodup → (∀ x ∈ xs, ∀ Y N, (T x true → Y (f x)) → (T x false → N) → body (enc x) Y N) →
    (∀ p : α → Bool, (∀ x ∈ xs, T x (p x)) → k ((xs.filter p).map f)) → lcGo body (xs.map enc) k
  | [], k, _, _, hk => hk (fun _ => true) fun x hx => absurd hx List.not_mem_nil
  | x :: xs, k, hn, hb, hk => by
    classical
    rw [List.nodup_cons] at hn
    refine hb x List.mem_cons_self _ _ (fun ht => ?_) fun ht => ?_
    · refine lcGo_any hn.2 (fun y hy => hb y (List.mem_cons_of_mem _ hy)) fun p hp => ?_
      have := hk (fun y => if y = x then true else p y) fun y hy => by
        by_cases e : y = x
        · subst e; rw [if_pos rfl]; exact ht
        · rw [if_neg e]; exact hp y ((List.mem_cons.mp hy).resolve_left e)
      rw [List.filter_cons, if_pos (by simp)] at this
      have e2 : ∀ y ∈ xs, (fun y => if y = x then true else p y) y = p y := fun y hy => if_neg (fun e : y = x => hn.1 (e ▸ hy))
      rwa [List.filter_congr e2] at this
    · refine lcGo_any hn.2 (fun y hy => hb y (List.mem_cons_of_mem _ hy)) fun p hp => ?_
      have := hk (fun y => if y = x then false else p y) fun y hy => by
        by_cases e : y = x
        · subst e; rw [if_pos rfl]; exact ht
        · rw [if_neg e]; exact hp y ((List.mem_cons.mp hy).resolve_left e)
      rw [List.filter_cons, if_neg (by simp)] at this
      have e2 : ∀ y ∈ xs, (fun y => if y = x then false else p y) y = p y := fun y hy => if_neg (fun e : y = x => hn.1 (e ▸ hy))
      rwa [List.filter_congr e2] at this
theorem lc_any {xs : List α} (enc f : α → PyData) (T : α → Bool → Prop) {body : PyData → DP → Prop → Prop} {k : List PyData → Prop} (hz : xs.length ≤ 100000) (hn : xs.Nodup) (hb : ∀ x ∈ xs, ∀ Y N, (T x true → Y (f x)) → (T x false → N) → body (enc x) Y N)
    (hk : ∀ p : α → Bool, (∀ x ∈ xs, T x (p x)) → k ((xs.filter p).map f)) : lcW (xs.map enc) body k := ⟨by rw [List.length_map]; exact hz, lcGo_any hn hb hk⟩
/-- for -/
theorem for_inv {enc : α → PyData} {body : PyData → σ → (σ → Prop) → (σ → Prop) → Prop} {done : σ → Prop} (Inv : Nat → σ → Prop) : ∀ {xs : List α} {s : σ} (n : Nat), Inv n s →
    (∀ i x s, xs[i]? = some x → Inv (n + i) s → ∀ nx bk, (∀ s', Inv (n + i + 1) s' → nx s') → (∀ s', done s' → bk s') → body (enc x) s nx bk) → (∀ s, Inv (n + xs.length) s → done s) → forW body done (xs.map enc) s
  | [], s, n, h0, _, hd => hd s h0
  | x :: xs, s, n, h0, hb, hd => by
    refine hb 0 x s rfl h0 _ _ (fun s' h' => ?_) fun s' h => h
    refine for_inv Inv (xs := xs) (n + 1) h' (fun i y s hy hi nx bk h1 h2 => ?_) fun s h => hd s (by rw [List.length_cons, show n + (xs.length + 1) = n + 1 + xs.length by omega]; exact h)
    have := hb (i + 1) y s (by simpa using hy)
    rw [show n + (i + 1) = n + 1 + i by omega] at this
    exact this hi nx bk h1 h2
theorem for_ok {xs : List α} (enc : α → PyData) {body : PyData → σ → (σ → Prop) → (σ → Prop) → Prop} {done : σ → Prop} {s0 : σ} (Inv : Nat → σ → Prop) (h0 : Inv 0 s0)
    (hb : ∀ i x s, xs[i]? = some x → Inv i s → ∀ nx bk, (∀ s', Inv (i + 1) s' → nx s') → (∀ s', done s' → bk s') → body (enc x) s nx bk) (hd : ∀ s, Inv xs.length s → done s) : forW body done (xs.map enc) s0 :=
  for_inv Inv 0 h0 (fun i x s hx hi => by rw [Nat.zero_add] at hi ⊢; exact hb i x s hx hi) (by rw [Nat.zero_add]; exact hd)
/-- .. that changes nothing -/
theorem for_const {xs : List α} (enc : α → PyData) {body : PyData → σ → (σ → Prop) → (σ → Prop) → Prop} {done : σ → Prop} {s0 : σ} (hb : ∀ x ∈ xs, ∀ nx bk, nx s0 → (∀ s', done s' → bk s') → body (enc x) s0 nx bk) (hd : done s0) : forW body done (xs.map enc) s0 :=
  for_ok enc (fun _ s => s = s0) rfl (fun i x s hx e nx bk h1 h2 => by subst e; exact hb x (List.mem_of_getElem? hx) nx bk (h1 _ rfl) h2) fun s e => by subst e; exact hd
end
/-! numbers -/
abbrev iD (n : Nat) : PyData := .int (n : Nat)
def rgN (n : Nat) : List PyData := (List.range n).map iD
theorem rng_ok {n : Nat} {k : List PyData → Prop} (h : n ≤ 100000) (hk : k ((List.range n).map iD)) : rngW (.int (n : Nat)) k := ⟨by omega, by omega, by unfold rgI; rw [Int.toNat_natCast]; exact hk⟩
theorem rgL_ok {n : Nat} {k : List PyData → Prop} (h : n ≤ 100000) (hk : k ((List.range n).map iD)) : rgLW (.int (n : Nat)) k := ⟨by omega, by omega, by unfold rgI; rw [Int.toNat_natCast]; exact hk⟩
theorem ix_ok {xs : List PyData} {n : Nat} {d : PyData} {k : DP} (h : xs[n]? = some d) (hk : k d) : ixW xs (.int (n : Nat)) k := ⟨d, atI_nat h, hk⟩
theorem set_ok {xs : List PyData} {n : Nat} {d : PyData} {k : List PyData → Prop} (h : n < xs.length) (hk : k (xs.set n d)) : setW xs (.int (n : Nat)) d k := ⟨n, ixN_nat h, hk⟩
theorem eqI_ok {i j : Int} {k : DP} (hk : k (.bool (decide (i = j)))) : eqW (.int i) (.int j) k := ⟨rfl, rfl, by
  show k (.bool (i == j)); rw [show (i == j) = decide (i = j) from Bool.beq_eq_decide_eq ..]; exact hk⟩
theorem neI_ok {i j : Int} {k : DP} (hk : k (.bool (!decide (i = j)))) : neW (.int i) (.int j) k := ⟨rfl, rfl, by
  show k (.bool (!(i == j))); rw [show (i == j) = decide (i = j) from Bool.beq_eq_decide_eq ..]; exact hk⟩
theorem eqN_ok {i j : Nat} {k : DP} (hk : k (.bool (decide (i = j)))) : eqW (.int (i : Nat)) (.int (j : Nat)) k := eqI_ok (by rw [show decide ((i : Int) = (j : Int)) = decide (i = j) from decide_eq_decide.mpr Int.ofNat_inj]; exact hk)
theorem neN_ok {i j : Nat} {k : DP} (hk : k (.bool (!decide (i = j)))) : neW (.int (i : Nat)) (.int (j : Nat)) k := neI_ok (by rw [show decide ((i : Int) = (j : Int)) = decide (i = j) from decide_eq_decide.mpr Int.ofNat_inj]; exact hk)
theorem all_ok {α : Type} {xs : List α} {p : α → Bool} {k : DP} (hk : k (.bool (xs.all p))) : allW (xs.map fun x => .bool (p x)) k := ⟨xs.map p, by rw [List.map_map]; rfl, by rw [List.all_map]; exact hk⟩
theorem any_ok {α : Type} {xs : List α} {p : α → Bool} {k : DP} (hk : k (.bool (xs.any p))) : anyW (xs.map fun x => .bool (p x)) k := ⟨xs.map p, by rw [List.map_map]; rfl, by rw [List.any_map]; exact hk⟩
theorem sum_ok {α : Type} {xs : List α} {f : α → Int} {k : DP} (hk : k (.int ((xs.map f).sum))) : sumW (xs.map fun x => .int (f x)) k := ⟨xs.map f, by rw [List.map_map]; rfl, hk⟩
theorem inN_ok {n : Nat} {ns : List Nat} {k : DP} (hk : k (.bool (decide (n ∈ ns)))) : inW (.int (n : Nat)) (ns.map iD) k := ⟨rfl, flat_nats ns, by
  rw [show (ns.map iD).any (fun z => PyData.eqv z (.int (n : Nat))) = decide (n ∈ ns) from any_nats ns n]; exact hk⟩
theorem niN_ok {n : Nat} {ns : List Nat} {k : DP} (hk : k (.bool (!decide (n ∈ ns)))) : niW (.int (n : Nat)) (ns.map iD) k := ⟨rfl, flat_nats ns, by
  rw [show (ns.map iD).any (fun z => PyData.eqv z (.int (n : Nat))) = decide (n ∈ ns) from any_nats ns n]; exact hk⟩
theorem draw_ok {n : Nat} {k : DP} (h : 0 < n) (h2 : n < 1073741824) (hk : ∀ r : Nat, r < n → k (.int (r : Nat))) : drawW (.int (n : Nat)) k := ⟨by omega, by omega, fun r h0 h1 => by
  have := hk r.toNat (by omega)
  rwa [show ((r.toNat : Nat) : Int) = r by omega] at this⟩
theorem or_ok {t u : (Bool → Prop) → Prop} {k : Bool → Prop} (b : Bool) (h1 : ∀ k, k b → t k) (h2 : b = false → u k) (h3 : b = true → k true) : orW t u k := h1 _ (by cases b; exact h2 rfl; exact h3 rfl)
theorem and_ok {t u : (Bool → Prop) → Prop} {k : Bool → Prop} (b : Bool) (h1 : ∀ k, k b → t k) (h2 : b = true → u k) (h3 : b = false → k false) : andW t u k := h1 _ (by cases b; exact h3 rfl; exact h2 rfl)
/-- data that == can be asked of -/
def ShD (n : Nat) (d : PyData) : Prop := PyData.canLay0 d = true ∧ PyData.depth d ≤ n
theorem shD_int (i : Int) {n : Nat} : ShD n (.int i) := ⟨rfl, Nat.zero_le _⟩
theorem shD_bl (i : Bool) {n : Nat} : ShD n (.bool i) := ⟨rfl, Nat.zero_le _⟩
theorem shD_non {n : Nat} : ShD n .none := ⟨rfl, Nat.zero_le _⟩
theorem shDAll {n : Nat} : ∀ {ds : List PyData}, (∀ d ∈ ds, ShD n d) → PyData.canLayAll0 ds = true ∧ PyData.depthAll ds ≤ n
  | [], _ => ⟨rfl, Nat.zero_le _⟩
  | d :: ds, h => by
    have a := h d List.mem_cons_self
    have b := shDAll fun e he => h e (List.mem_cons_of_mem _ he)
    exact ⟨by show (PyData.canLay0 d && PyData.canLayAll0 ds) = true; rw [a.1, b.1]; rfl, Nat.max_le.mpr ⟨a.2, b.2⟩⟩
theorem shD_list {n : Nat} {ds : List PyData} (h : ∀ d ∈ ds, ShD n d) : ShD (n + 1) (.list ds) := ⟨(shDAll h).1, Nat.succ_le_succ (shDAll h).2⟩
theorem shD_tup {n : Nat} {ds : List PyData} (h : ∀ d ∈ ds, ShD n d) : ShD (n + 1) (.tuple ds) := ⟨(shDAll h).1, Nat.succ_le_succ (shDAll h).2⟩
theorem ShD.sh {n : Nat} {d : PyData} (h : ShD n d) (k : n ≤ 64) : SeqAt.shaped d = true := by
  unfold SeqAt.shaped
  rw [h.1, decide_eq_true (Nat.le_trans h.2 k)]; rfl
mutual
theorem eqv_rfl : ∀ (d : PyData), PyData.canLay0 d = true → PyData.eqv d d = true
  | .none, _ => rfl
  | .bool b, _ => by cases b <;> rfl
  | .int i, _ => by show (i == i) = true; simp
  | .str s, _ => by show (s == s) = true; simp
  | .list xs, h => eqvAll_rfl xs h
  | .tuple xs, h => eqvAll_rfl xs h
  | .dict _, h => by cases h
theorem eqvAll_rfl : ∀ (xs : List PyData), PyData.canLayAll0 xs = true → PyData.eqvAll xs xs = true
  | [], _ => rfl
  | x :: xs, h => by
    have h' : (PyData.canLay0 x && PyData.canLayAll0 xs) = true := h
    rw [Bool.and_eq_true] at h'
    show (PyData.eqv x x && PyData.eqvAll xs xs) = true
    rw [eqv_rfl x h'.1, eqvAll_rfl xs h'.2]; rfl
end
theorem eqSelf_ok {d : PyData} {n : Nat} {k : DP} (h : ShD n d) (hn : n ≤ 64) (hk : k (.bool true)) : eqW d d k := ⟨h.sh hn, h.sh hn, by rw [eqv_rfl d h.1]; exact hk⟩
end Eh

namespace Eh
open PySem PySem.Spec PyProof.Rows L2
def t__law_pool (K : PySem.W.Frag) (w : World) (E : XK) : TS :=
  (tSeq (tAsg (tC (.int 1009)) (gName 1))
    (tSeq (tAsg (tLst tNil) (gName 2))
    (tSeq (tFor (iRng1 (tCons (tCB (rLenA K) (tCons (tVar 0) tNil)) tNil)) (gName 3) (tSeq (tAsg (tOp rModI (tCB rIntA (tCons (tOp (rAddA K) (tOp (rAddA K) (tOp (rAddA K) (tOp (rMulA K) (tVar 1) (tVar 1)) (tOp (rIx K) (tVar 0) (tVar 3))) (tVar 3)) (tC (.int 3))) tNil)) (tC (.int 2305843009213693951))) (gName 1))
    (tSeq (tAsg (tOp rModI (tCB rIntA (tCons (tOp (rAddA K) (tOp (rMulA K) (tVar 1) (tVar 1)) (tC (.int 77003))) tNil)) (tC (.int 2305843009213693951))) (gName 1))
    (tIfS (tTest (tOp rGeI (tOp (rIx K) (tVar 0) (tVar 3)) (tC (.int 1000000000000000000)))) (tDrop (tBM K "list" rAppend (tVar 2) (tCons (tOp (rIx K) (tVar 0) (tVar 3)) tNil))) tNext))))
    (tRet (tOp (rAddA K) (tLst (tCons (tVar 1) (tCons (tC (.int 0)) tNil))) (tVar 2))))))
def t__law_take (K : PySem.W.Frag) (w : World) (E : XK) : TS :=
  (tSeq (tIfS (tAnd (tTest (tOp (rEqA K) (tOp (rIx K) (tVar 0) (tC (.int 1))) (tC (.int 0)))) (tTest (tOp rGtI (tCB (rLenA K) (tCons (tVar 0) tNil)) (tC (.int 2))))) (tAsg (tBM K "list" rPopAt (tVar 0) (tCons (tC (.int 2)) tNil)) (gSub (tVar 0) (tC (.int 1)) rSetL)) tNext)
    (tSeq (tIfS (tTest (tOp rGtI (tOp (rIx K) (tVar 0) (tC (.int 1))) (tC (.int 0)))) (tSeq (tAsg (tOp rModI (tCB rIntA (tCons (tOp (rIx K) (tVar 0) (tC (.int 1))) tNil)) (tVar 1)) (gName 2))
    (tSeq (tAsg (tOp rDivI (tOp (rIx K) (tVar 0) (tC (.int 1))) (tVar 1)) (gSub (tVar 0) (tC (.int 1)) rSetL))
    (tRet (tVar 2)))) tNext)
    (tSeq (tAsg (tOp rModI (tCB rIntA (tCons (tOp (rAddA K) (tOp (rMulA K) (tOp (rIx K) (tVar 0) (tC (.int 0))) (tOp (rIx K) (tVar 0) (tC (.int 0)))) (tC (.int 90001))) tNil)) (tC (.int 2305843009213693951))) (gName 3))
    (tSeq (tAsg (tOp rModI (tCB rIntA (tCons (tOp (rAddA K) (tOp (rMulA K) (tVar 3) (tVar 3)) (tC (.int 40009))) tNil)) (tC (.int 2305843009213693951))) (gSub (tVar 0) (tC (.int 0)) rSetL))
    (tRet (tOp rModI (tCB rIntA (tCons (tOp rDivI (tOp (rIx K) (tVar 0) (tC (.int 0))) (tC (.int 1048576))) tNil)) (tVar 1)))))))

/-! ### the pool of the laws on talk: [state, rest, great..] -/
def plPI (p : Addr) (H : Hp) : Prop := ∃ (s t : Int) (g : List Int), H p = some (.lst (V.int s :: V.int t :: g.map V.int)) ∧ 0 ≤ s ∧ s < 2305843009213693951 ∧ 0 ≤ t ∧ (∀ x ∈ g, 0 < x) ∧ g.length ≤ 100
def plC (p : Addr) : Pc := ⟨[p], p, plPI p, fun H H' h ⟨s, t, g, e, r⟩ => ⟨s, t, g, (h p List.mem_cons_self).trans e, r⟩⟩
def Pl (C : Pc) : Prop := ∃ p, C = plC p
def sp__law_take : Sp := spD Pl (fun ds => ∃ n : Int, ds = [.int n] ∧ 0 < n ∧ n < 1073741824) fun ds d => ∃ n r : Int, ds = [.int n] ∧ d = .int r ∧ 0 ≤ r ∧ r < n
theorem wd_pool {p : Addr} {F H : Hp} {xs : List V} (w : Wd (plC p) F H) (h : plPI p (upd H p (.lst xs))) : Wd (plC p) F (upd H p (.lst xs)) ∧ Grow [p] F H F (upd H p (.lst xs)) := by
  have fp : F p = none := w.sF p List.mem_cons_self
  have np : ∀ a o, F a = some o → a ≠ p := fun a o e z => by subst z; rw [fp] at e; cases e
  have s : Sub F (upd H p (.lst xs)) := fun a o e => by rw [upd_ne (np a o e)]; exact w.sub a o e
  exact ⟨⟨s, h, w.sF, fun a ha => upd_th (w.sH a ha)⟩, ⟨Sub.refl F, s, fun a o n e => by
    rw [upd_ne (fun z => n (by rw [z]; exact List.mem_cons_self))]; exact e, fun a e => upd_th e, fun _ _ n => n⟩⟩
section
variable {K : PySem.W.Frag} {w : World} {E : XK}
theorem take_low {p : Addr} {H : Hp} {s t many : Int} {g : List Int} {D : Ends} (hm : 0 < many) (hm2 : many < 1073741824) (hp : H p = some (.lst (V.int s :: V.int t :: g.map V.int))) (hs : 0 ≤ s) (hs2 : s < 2305843009213693951) (ht : 0 ≤ t)
    (hq : ∀ (r s' t' : Int), 0 ≤ r → r < many → 0 ≤ s' → s' < 2305843009213693951 → 0 ≤ t' → D.rt (.int r) (upd H p (.lst (V.int s' :: V.int t' :: g.map V.int)))) :
    (tSeq (tIfS (tTest (tOp rGtI (tOp (rIx K) (tVar 0) (tC (.int 1))) (tC (.int 0)))) (tSeq (tAsg (tOp rModI (tCB rIntA (tCons (tOp (rIx K) (tVar 0) (tC (.int 1))) tNil)) (tVar 1)) (gName 2))
    (tSeq (tAsg (tOp rDivI (tOp (rIx K) (tVar 0) (tC (.int 1))) (tVar 1)) (gSub (tVar 0) (tC (.int 1)) rSetL))
    (tRet (tVar 2)))) tNext)
    (tSeq (tAsg (tOp rModI (tCB rIntA (tCons (tOp (rAddA K) (tOp (rMulA K) (tOp (rIx K) (tVar 0) (tC (.int 0))) (tOp (rIx K) (tVar 0) (tC (.int 0)))) (tC (.int 90001))) tNil)) (tC (.int 2305843009213693951))) (gName 3))
    (tSeq (tAsg (tOp rModI (tCB rIntA (tCons (tOp (rAddA K) (tOp (rMulA K) (tVar 3) (tVar 3)) (tC (.int 40009))) tNil)) (tC (.int 2305843009213693951))) (gSub (tVar 0) (tC (.int 0)) rSetL))
    (tRet (tOp rModI (tCB rIntA (tCons (tOp rDivI (tOp (rIx K) (tVar 0) (tC (.int 0))) (tC (.int 1048576))) tNil)) (tVar 1)))))) D (L2.start ["pool", "many", "found", "state"] [.ref p, .int many]) H := by
  have m0 : ∀ x : Int, 0 ≤ x % many := fun x => Int.emod_nonneg _ (by omega)
  have m1 : ∀ x : Int, x % many < many := fun x => Int.emod_lt_of_pos _ hm
  have z0 : ∀ x : Int, 0 ≤ x % 2305843009213693951 := fun x => Int.emod_nonneg _ (by decide)
  have z1 : ∀ x : Int, x % 2305843009213693951 < 2305843009213693951 := fun x => Int.emod_lt_of_pos _ (by decide)
  refine sx_if (ex_gt (ex_ixN 1 (ex_var rfl) ex_c hp rfl) ex_c) (fun ht0 => ?_) fun _ => ?_
  · refine sx_asg (ex_mod (ex_int (ex_ixN 1 (ex_var rfl) ex_c hp rfl)) (ex_var rfl) hm) ?_
    refine sx_setN 1 (ex_div (ex_ixN 1 (ex_var rfl) ex_c hp rfl) (ex_var rfl) ⟨hm, hm2⟩) (ex_var rfl) ex_c hp (by simp) ?_
    exact sx_ret (ex_var rfl) (hq _ _ _ (m0 _) (m1 _) hs hs2 (Int.ediv_nonneg ht (by omega)))
  · have b0 := z0 (s * s + 90001)
    have b1 := z1 (s * s + 90001)
    refine sx_asg (ex_mod (ex_int (ex_add (ex_mul (ex_ixN 0 (ex_var rfl) ex_c hp rfl) (ex_ixN 0 (ex_var rfl) ex_c hp rfl) (.inl ⟨by omega, by omega⟩)) ex_c)) ex_c (by decide)) ?_
    refine sx_setN 0 (ex_mod (ex_int (ex_add (ex_mul (ex_var rfl) (ex_var rfl) (.inl ⟨by omega, by omega⟩)) ex_c)) ex_c (by decide)) (ex_var rfl) ex_c hp (by simp) ?_
    exact sx_ret (ex_mod (ex_int (ex_div (ex_ixN 0 (ex_var rfl) ex_c upd_same rfl) ex_c ⟨by decide, by decide⟩)) (ex_var rfl) hm) (hq _ _ _ (m0 _) (m1 _) (z0 _) (z1 _) ht)
theorem pure_take (vs : List V) (H : Hp) (Q : VK) (E : XK) (h : sp__law_take vs H Q E) : t__law_take K w E { nx := fun _ H' => Q .non H', rt := Q } (L2.start ["pool", "many", "found", "state"] vs) H := by
  obtain ⟨C, F, ws, ds, ⟨p, rfl⟩, rfl, wd, r, ⟨many, rfl, hm, hm2⟩, hq⟩ := h
  cases r with
  | cons r1 r2 =>
    cases r2
    rw [r1.int_inv]
    obtain ⟨s, t, g, hp, hs, hs2, ht, hg, hgl⟩ := wd.pi
    have fin : ∀ (r s' t' : Int) (g' : List Int), (∀ x ∈ g', 0 < x) → g'.length ≤ 100 → 0 ≤ r → r < many → 0 ≤ s' → s' < 2305843009213693951 → 0 ≤ t' → Q (.int r) (upd H p (.lst (V.int s' :: V.int t' :: g'.map V.int))) := fun r s' t' g' h1 h2 a b c d e => by
      obtain ⟨w2, g2⟩ := wd_pool (xs := V.int s' :: V.int t' :: g'.map V.int) wd ⟨s', t', g', upd_same, c, d, e, h1, h2⟩
      exact hq _ F _ (.int r) g2 w2 ⟨many, r, rfl, rfl, a, b⟩ (.int r)
    refine sx_if (ex_and (ex_eq (ex_ixN 1 (ex_var rfl) ex_c hp rfl) ex_c) (fun _ => ex_gt (ex_len (ex_var rfl) hp) ex_c) fun _ => rfl) (fun hb => ?_) fun hb => ?_
    · rw [Bool.and_eq_true] at hb
      have h2 := of_decide_eq_true hb.2
      cases g with
      | nil => exact absurd h2 (show ¬ ((2 : Int) < ((0 + 1 + 1 : Nat) : Int)) by decide)
      | cons x g =>
        refine sx_setN 1 (ex_pop (k := 2) (ex_var rfl) ex_c hp hp rfl (by simp at hgl ⊢; omega)) (ex_var rfl) ex_c upd_same (by simp [List.eraseIdx]) ?_
        refine take_low (g := g) (s := s) (t := x) hm hm2 upd_same hs hs2 (Int.le_of_lt (hg x List.mem_cons_self)) fun r s' t' a b c d e => ?_
        rw [upd_upd, upd_upd]
        exact fin r s' t' g (fun y hy => hg y (List.mem_cons_of_mem _ hy)) (by simp at hgl; omega) a b c d e
    · exact take_low (g := g) (s := s) (t := t) hm hm2 hp hs hs2 ht fun r s' t' a b c d e => fin r s' t' g hg hgl a b c d e
/-! ### its making -/
def sp__law_pool (K : PySem.W.Frag) : Sp := fun vs H Q _ => ∃ (a : Addr) (ns : List Int), vs = [.ref a] ∧ FzL K [] H a (ns.map V.int) ∧ ns.length ≤ 63 ∧
  ∀ p H', H p = none → (∀ b o, H b = some o → H' b = some o) → plPI p H' → Q (.ref p) H'
theorem big_pos {x : Int} (h : 1000000000000000000 ≤ x) : 0 < x := by omega
theorem pure_pool (vs : List V) (H : Hp) (Q : VK) (E : XK) (h : sp__law_pool K vs H Q E) : t__law_pool K w E { nx := fun _ H' => Q .non H', rt := Q } (L2.start ["script", "state", "great", "k"] vs) H := by
  obtain ⟨a, ns, rfl, hz, hl, hq⟩ := h
  let F0 : Hp := fun _ => none
  have s0 : Sub F0 H := fun _ _ e => nomatch e
  have z0 : ∀ x : Int, 0 ≤ x % 2305843009213693951 := fun x => Int.emod_nonneg _ (by decide)
  have z1 : ∀ x : Int, x % 2305843009213693951 < 2305843009213693951 := fun x => Int.emod_lt_of_pos _ (by decide)
  let xs := ns.map V.int
  have main : ∀ D : Ends, RetN pc0 H F0 D (fun es => ∃ (s : Int) (g : List Int), es = (s :: 0 :: g).map .int ∧ 0 ≤ s ∧ s < 2305843009213693951 ∧ (∀ x ∈ g, 0 < x) ∧ g.length ≤ 63) →
      At pc0 H F0 [.fz K a (ns.map V.int), .no, .no, .no] (t__law_pool K w E D) := fun D hr => by
    refine at_asg ev_int (at_asgN (en_lst ea_nil (by decide)) ?_)
    refine at_forR (xs := List.range ns.length) (enc := fun i : Nat => .int i) (vs := [3]) (fun i Γ => ∃ (s : Int) (g : List Int) (z : Sl), Γ = [.fz K a (ns.map V.int), .dat (.int s), .own (g.map .int), z] ∧ 0 ≤ s ∧ s < 2305843009213693951 ∧ (∀ x ∈ g, 0 < x) ∧ g.length ≤ i)
      ⟨1009, [], .no, rfl, by decide, by decide, by simp, Nat.le_refl _⟩ (if_rngN ((ev_lenZ rfl).is (by rw [List.length_map])) (by omega)) (fun i Γ => Γ.set 3 (.dat (.int i)))
      (fun i x Γ _ _ => tg_name List.mem_cons_self) ?_ ?_
    · rintro i x Γ hx ⟨s, g, z, rfl, h1, h2, h3, h4⟩ F1 H1 gr D' e1 e2 e3 e4
      have hi : i < ns.length := by
        have := (List.getElem?_eq_some_iff.mp hx).1
        simpa using this
      rw [List.getElem?_range hi] at hx
      cases hx
      obtain ⟨m, hm⟩ : ∃ m, ns[i]? = some m := ⟨_, List.getElem?_eq_getElem hi⟩
      refine at_asg (ev_mod (ev_cint (ev_add (ev_add (ev_add (ev_mul (ev_var rfl) (ev_var rfl) (.inl ⟨by omega, by omega⟩)) (ev_ixZ rfl (ev_var rfl) hm)) (ev_var rfl)) ev_int)) ev_int (by decide)) ?_
      have b0 := z0 (s * s + m + (i : Int) + 3)
      have b1 := z1 (s * s + m + (i : Int) + 3)
      refine at_asg (ev_mod (ev_cint (ev_add (ev_mul (ev_var rfl) (ev_var rfl) (.inl ⟨by omega, by omega⟩)) ev_int)) ev_int (by decide)) ?_
      refine at_if (et_test (ev_ge (ev_ixZ rfl (ev_var rfl) hm) ev_int)) (fun hb => ?_) fun hb => ?_
      · have hb' := of_decide_eq_true hb
        refine at_append (ds := g.map .int) rfl (by rw [List.length_map]; omega) (ev_ixZ rfl (ev_var rfl) hm) (e2 _ ⟨((s * s + m + (i : Int) + 3) % 2305843009213693951 * ((s * s + m + (i : Int) + 3) % 2305843009213693951) + 77003) % 2305843009213693951, g ++ [m], .dat (.int i), by rw [List.map_append]; rfl, z0 _, z1 _, fun x hx => ?_, by rw [List.length_append]; exact Nat.succ_le_succ h4⟩)
        · rcases List.mem_append.mp hx with h | h
          · exact h3 x h
          · rw [List.mem_singleton.mp h]; omega
      · exact at_next (e2 _ ⟨_, g, _, rfl, z0 _, z1 _, h3, Nat.le_succ_of_le h4⟩)
    · rintro Γ ⟨s, g, z, rfl, h1, h2, h3, h4⟩
      rw [List.length_range] at h4
      refine at_retN hr (en_cat (en_lst (ea_cons (ev_var rfl) (ea_cons ev_int ea_nil)) (by simp)).rl (rl_own rfl) (by simp; omega)) ⟨s, g, rfl, h1, h2, h3, by omega⟩
  refine main _ ?_ F0 H _ (wd0 s0) (.refl s0) ⟨rfl, ?_, ?_⟩
  · rintro F H' p us es wd gr hb hf _ hp ra ⟨s, g, rfl, h1, h2, h3, h4⟩
    exact hq p H' hb (fun b o e => gr.hh b o (by exact List.not_mem_nil) e) ⟨s, 0, g, by rw [hp, ra.ints]; rfl, h1, h2, Int.le_refl _, h3, by omega⟩
  · intro i s e
    match i, e with
    | 0, e => cases e; exact ⟨rfl, hz⟩
    | 1, e => cases e; trivial
    | 2, e => cases e; trivial
    | 3, e => cases e; trivial
    | n + 4, e => cases e
  · intro i j ds es p e
    match i, e with
    | 0, e => cases e
    | 1, e => cases e
    | 2, e => cases e
    | 3, e => cases e
    | n + 4, e => cases e
end
def sp_law (K : PySem.W.Frag) : Sp := fun vs H Q _ => ∃ (a : Addr) (ns : List Int), vs = [.ref a] ∧ FzL K [] H a (ns.map V.int) ∧ ns.length ≤ 63 ∧ ∀ H', Q (.bl true) H'
theorem fz_of {K : PySem.W.Frag} {H : Hp} {a : Addr} {xs : List V} (o : Only H) (h : SqL K H a xs) : FzL K [] H a xs := by
  rcases h with (h | ⟨u, h⟩) | h
  · rcases o a with z | ⟨u, ys, z⟩
    · rw [h] at z; cases z
    · rw [h] at z; cases z
  · exact .inl ⟨u, h, List.not_mem_nil⟩
  · exact .inr h

section
variable {K : PySem.W.Frag} {w : World} {E : XK}
/-- the law's body behind its first statement -/
theorem law_pool {rest : TS} {N : List Str} {a : Addr} {ns : List Int} {H : Hp} {Q : VK} (hN : 2 ≤ N.length) (hz : FzL K [] H a (ns.map V.int)) (hl : ns.length ≤ 63) (hq : ∀ H', Q (.bl true) H')
    (hb : ∀ (p : Addr) (B : Hp) (D : Ends), Pl (plC p) → RetOk (plC p) B (fun _ => none) D (fun d => d = .bool true) → At (plC p) B (fun _ => none) (.no :: .pool :: List.replicate (N.length - 2) .no) (rest D)) :
    tSeq (tAsg (tCall (sp__law_pool K) [] E (tCons (tVar 0) tNil)) (gName 1)) rest { nx := fun _ H' => Q .non H', rt := Q } (L2.start N [.ref a]) H := by
  refine ⟨.ref a, rfl, a, ns, rfl, hz, hl, fun p H' hn hsub hpi => ?_⟩
  let F0 : Hp := fun _ => none
  have hwd : Wd (plC p) F0 H' := ⟨(fun _ _ e => nomatch e), hpi, fun _ _ => rfl, fun b hb => by
    rw [List.mem_singleton.mp hb]
    obtain ⟨s, t, g, e, _⟩ := hpi
    rw [e]; exact fun z => nomatch z⟩
  have gm : Gm (plC p) H' F0 H' ((L2.start N [.ref a]).set 1 (some (.ref p))) (.no :: .pool :: List.replicate (N.length - 2) .no) := by
    have hlen : (L2.start N [.ref a]).length = N.length := by unfold L2.start; simp; omega
    refine ⟨by rw [List.length_set, hlen]; simp; omega, fun i s e => ?_, fun i j ds es q e => ?_⟩
    · match i, e with
      | 0, e => cases e; trivial
      | 1, e =>
        cases e
        show _ = _
        rw [List.getElem?_set, if_pos rfl, if_pos (by rw [hlen]; omega)]; rfl
      | n + 2, e =>
        rw [List.getElem?_cons_succ, List.getElem?_cons_succ, List.getElem?_replicate] at e
        split at e
        · cases e; trivial
        · cases e
    · match i, e with
      | 0, e => cases e
      | 1, e => cases e
      | n + 2, e =>
        rw [List.getElem?_cons_succ, List.getElem?_cons_succ, List.getElem?_replicate] at e
        split at e <;> cases e
  exact hb p H' { nx := fun _ H' => Q .non H', rt := Q } ⟨p, rfl⟩ (fun F H2 v d _ _ e r => by
    subst e
    rw [r.bl_inv]
    exact hq H2) F0 H' _ hwd (.refl hwd.sub) gm
end
end Eh

namespace Eh
open PySem PySem.Spec PyProof.Rows L2
/-! ### a number taken from the pool -/
@[irreducible] def W__law_take (n : PyData) (rt : PyData → Prop) (er : XP) : Prop := drawW n rt
theorem conv_take {A : Str → Addr} {vs : List V} {H : Hp} {Q : VK} {E : XK} (h : spP A Pl (vl1 W__law_take) vs H Q E) : sp__law_take vs H Q E := by
  obtain ⟨C, F, ws, ds, P, X, hf, e, w, r, hW, hok, _⟩ := h
  obtain ⟨a, rfl, hd⟩ := vl1_inv hW
  unfold W__law_take drawW at hd
  split at hd
  · rename_i n
    obtain ⟨h1, h2, h3⟩ := hd
    exact ⟨C, F, ws, _, hf, e, w, r, ⟨n, rfl, h1, h2⟩, fun v F' H' d g w' ⟨m, q, e1, e2, e3, e4⟩ rv => by
      cases e1
      subst e2
      exact hok _ v F' H' (h3 q e3 e4) g w' rv⟩
  · exact hd.elim
theorem P__law_take {A : Str → Addr} {K : PySem.W.Frag} {w : World} (vs : List V) (H : Hp) (Q : VK) (E : XK) (h : spP A Pl (vl1 W__law_take) vs H Q E) : t__law_take K w E { nx := fun _ H' => Q .non H', rt := Q } (L2.start ["pool", "many", "found", "state"] vs) H := pure_take vs H Q E (conv_take h)
end Eh

namespace Eh
open PySem PySem.Spec PyProof.Rows L2
variable {A : Str → Addr} {K : PySem.W.Frag} {w : World}
abbrev N_is_integer : List Str := ["value"]
def t_is_integer (K : PySem.W.Frag) (w : World) (E : XK) : TS :=
  (tRet (tAndV (tCB (rIsi K) (tCons (tVar 0) (tCons (tC (.ty "int")) tNil))) (tNotV (tCB (rIsi K) (tCons (tVar 0) (tCons (tC (.ty "bool")) tNil))))))
@[irreducible] def W_is_integer (value : PyData) (rt : PyData → Prop) (er : XP) : Prop :=
  andVW (fun k1 => isIntW value fun t1 => k1 t1) (fun k2 => isBlW value fun t2 => notW t2 fun t3 => k2 t3) fun t4 => rt t4
theorem P_is_integer (vs : List V) (H : Hp) (Q : VK) (E : XK) (h : spF A (vl1 W_is_integer) vs H Q E) : t_is_integer K w E { nx := fun _ H' => Q .non H', rt := Q } (L2.start N_is_integer vs) H :=
  spF_body (N := N_is_integer) (t := fun E => t_is_integer K w E) h fun ds rt er B F0 D hW hr hx hn => by
    obtain ⟨value, rfl, h⟩ := vl1_inv hW
    unfold W_is_integer at h
    show At pc0 B F0 [.dat value] (t_is_integer K w E D)
    exact aw_ret hr (ew_andV (ew_isInt (ew_var rfl)) (ew_notV (ew_isBl (ew_var rfl)))) (RaiseW.tt0 hx) h
abbrev N_is_from_to : List Str := ["value", "least", "most"]
def t_is_from_to (K : PySem.W.Frag) (w : World) (sp_is_integer : Sp) (E : XK) : TS :=
  (tRet (tAndV (tCall sp_is_integer [] E (tCons (tVar 0) tNil)) (tChain rLeI rLeI (tVar 1) (tVar 0) (tVar 2))))
@[irreducible] def W_is_from_to (value : PyData) (least : PyData) (most : PyData) (rt : PyData → Prop) (er : XP) : Prop :=
  andVW (fun k2 => W_is_integer value (fun t1 => k2 t1) er) (fun k3 => chainW leW leW least value (fun k1 => k1 most) fun t2 => k3 t2) fun t3 => rt t3
theorem P_is_from_to (vs : List V) (H : Hp) (Q : VK) (E : XK) (h : spF A (vl3 W_is_from_to) vs H Q E) : t_is_from_to K w (spF A (vl1 W_is_integer)) E { nx := fun _ H' => Q .non H', rt := Q } (L2.start N_is_from_to vs) H :=
  spF_body (N := N_is_from_to) (t := fun E => t_is_from_to K w (spF A (vl1 W_is_integer)) E) h fun ds rt er B F0 D hW hr hx hn => by
    obtain ⟨value, least, most, rfl, h⟩ := vl3_inv hW
    unfold W_is_from_to at h
    show At pc0 B F0 [.dat value, .dat least, .dat most] (t_is_from_to K w (spF A (vl1 W_is_integer)) E D)
    exact aw_ret hr (ew_andV (ew_call (aw_cons (ew_var rfl) aw_nil)) (ew_chain ov_le ov_le (ew_var rfl) (ew_var rfl) (ew_var rfl))) (RaiseW.tt0 hx) h
abbrev N_check_number : List Str := ["value", "least", "most"]
def t_check_number (K : PySem.W.Frag) (w : World) (C_BadNumber : Addr) (sp_is_from_to : Sp) (E : XK) : TS :=
  (tIfS (tNot (tB (tCall sp_is_from_to [] E (tCons (tVar 0) (tCons (tVar 1) (tCons (tVar 2) tNil)))))) (tRaiseC E C_BadNumber) tNext)
@[irreducible] def W_check_number (value : PyData) (least : PyData) (most : PyData) (rt : PyData → Prop) (er : XP) : Prop :=
  W_is_from_to value least most (fun t1 => boolW t1 fun b1 => iteW (!b1) (er "BadNumber" none) (rt .none)) er
theorem P_check_number (vs : List V) (H : Hp) (Q : VK) (E : XK) (h : spF A (vl3 W_check_number) vs H Q E) : t_check_number K w (A "BadNumber") (spF A (vl3 W_is_from_to)) E { nx := fun _ H' => Q .non H', rt := Q } (L2.start N_check_number vs) H :=
  spF_body (N := N_check_number) (t := fun E => t_check_number K w (A "BadNumber") (spF A (vl3 W_is_from_to)) E) h fun ds rt er B F0 D hW hr hx hn => by
    obtain ⟨value, least, most, rfl, h⟩ := vl3_inv hW
    unfold W_check_number at h
    show At pc0 B F0 [.dat value, .dat least, .dat most] (t_check_number K w (A "BadNumber") (spF A (vl3 W_is_from_to)) E D)
    refine aw_if (tw_not (tw_B (ew_call (aw_cons (ew_var rfl) (aw_cons (ew_var rfl) (aw_cons (ew_var rfl) aw_nil)))))) (RaiseW.tt0 hx) h (fun h => ?_) (fun h => ?_)
    · exact aw_raise "BadNumber" hx h
    · refine aw_next ?_
      exact hn h _
abbrev N__law_same : List Str := ["found", "due", "k"]
def t__law_same (K : PySem.W.Frag) (w : World) (sp__law_same : Sp) (E : XK) : TS :=
  (tSeq (tIfS (tTest (tOp rIsN (tVar 1) (tC .non))) (tRet (tOp rIsN (tVar 0) (tC .non))) tNext)
    (tSeq (tIfS (tB (tCB (rIsi K) (tCons (tVar 1) (tCons (tC (.ty "bool")) tNil)))) (tRet (tAndV (tCB (rIsi K) (tCons (tVar 0) (tCons (tC (.ty "bool")) tNil))) (tOp (rEqA K) (tVar 0) (tVar 1)))) tNext)
    (tSeq (tIfS (tB (tCB (rIsi K) (tCons (tVar 1) (tCons (tC (.ty "int")) tNil)))) (tRet (tAndV (tCB (rIsi K) (tCons (tVar 0) (tCons (tC (.ty "int")) tNil))) (tAndV (tNotV (tCB (rIsi K) (tCons (tVar 0) (tCons (tC (.ty "bool")) tNil)))) (tOp (rEqA K) (tVar 0) (tVar 1))))) tNext)
    (tSeq (tIfS (tOr (tNot (tB (tCB (rIsi K) (tCons (tVar 0) (tCons (tC (.ty "tuple")) tNil))))) (tTest (tOp (rNeA K) (tCB (rLenA K) (tCons (tVar 0) tNil)) (tCB (rLenA K) (tCons (tVar 1) tNil))))) (tRet (tC (.bl false))) tNext)
    (tSeq (tFor (iRng1 (tCons (tCB (rLenA K) (tCons (tVar 1) tNil)) tNil)) (gName 2) (tIfS (tNot (tB (tCall sp__law_same [] E (tCons (tOp (rIx K) (tVar 0) (tVar 2)) (tCons (tOp (rIx K) (tVar 1) (tVar 2)) tNil))))) (tRet (tC (.bl false))) tNext))
    (tRet (tC (.bl true))))))))
@[irreducible] def S__law_same (rc : PyData → PyData → (PyData → Prop) → XP → Prop) (found : PyData) (due : PyData) (rt : PyData → Prop) (er : XP) : Prop :=
  isNW due fun t1 => boolW t1 fun b1 => iteW b1 (isNW found fun t2 => rt t2) (isBlW due fun t3 => boolW t3 fun b2 => iteW b2 (andVW (fun k1 => isBlW found fun t4 => k1 t4) (fun k2 => eqW found due fun t5 => k2 t5) fun t6 => rt t6) (isIntW due fun t7 => boolW t7 fun b3 => iteW b3 (andVW (fun k5 => isIntW found fun t8 => k5 t8) (fun k6 => andVW (fun k3 => isBlW found fun t9 => notW t9 fun t10 => k3 t10) (fun k4 => eqW found due fun t11 => k4 t11) fun t12 => k6 t12) fun t13 => rt t13) (orW (fun k7 => isTupW found fun t14 => boolW t14 fun b4 => k7 (!b4)) (fun k8 => seqW found fun l1 => lenW l1 fun t15 => seqW due fun l2 => lenW l2 fun t16 => neW t15 t16 fun t17 => boolW t17 fun b5 => k8 b5) fun b6 => iteW b6 (rt (.bool false)) (seqW due fun l3 => lenW l3 fun t18 => rngW t18 fun it1 => forW (σ := Unit) (fun k9 s nx bk => seqW found fun l4 => ixW l4 k9 fun t20 => seqW due fun l5 => ixW l5 k9 fun t21 => rc t20 t21 (fun t19 => boolW t19 fun b7 => iteW (!b7) (rt (.bool false)) (nx ())) er) (fun s => rt (.bool true)) it1 ()))))
@[irreducible] def W__law_same : Nat → PyData → PyData → (PyData → Prop) → XP → Prop
  | 0 => fun _ _ _ _ => False
  | fu + 1 => S__law_same (W__law_same fu)
theorem W__law_same_succ (fu : Nat) : W__law_same (fu + 1) = S__law_same (W__law_same fu) := by with_unfolding_all rfl
theorem W__law_same_zero (found : PyData) (due : PyData) (rt : PyData → Prop) (er : XP) : W__law_same 0 found due rt er = False := by with_unfolding_all rfl
theorem P__law_same (fu : Nat) (vs : List V) (H : Hp) (Q : VK) (E : XK) (h : spF A (vl2 (W__law_same (fu + 1))) vs H Q E) : t__law_same K w (spF A (vl2 (W__law_same fu))) E { nx := fun _ H' => Q .non H', rt := Q } (L2.start N__law_same vs) H :=
  spF_body (N := N__law_same) (t := fun E => t__law_same K w (spF A (vl2 (W__law_same fu))) E) h fun ds rt er B F0 D hW hr hx hn => by
    obtain ⟨found, due, rfl, h⟩ := vl2_inv hW
    rw [W__law_same_succ] at h
    unfold S__law_same at h
    show At pc0 B F0 [.dat found, .dat due, .no] (t__law_same K w (spF A (vl2 (W__law_same fu))) E D)
    refine aw_seq ?_
    refine aw_if (tw_test (ew_isN (ew_var rfl))) (RaiseW.tt0 hx) h (fun h => ?_) (fun h => ?_)
    · exact aw_ret hr (ew_isN (ew_var rfl)) (RaiseW.tt0 hx) h
    · refine aw_next ?_
      refine aw_seq ?_
      refine aw_if (tw_B (ew_isBl (ew_var rfl))) (RaiseW.tt0 hx) h (fun h => ?_) (fun h => ?_)
      · exact aw_ret hr (ew_andV (ew_isBl (ew_var rfl)) (ew_op ov_eq (ew_var rfl) (ew_var rfl))) (RaiseW.tt0 hx) h
      · refine aw_next ?_
        refine aw_seq ?_
        refine aw_if (tw_B (ew_isInt (ew_var rfl))) (RaiseW.tt0 hx) h (fun h => ?_) (fun h => ?_)
        · exact aw_ret hr (ew_andV (ew_isInt (ew_var rfl)) (ew_andV (ew_notV (ew_isBl (ew_var rfl))) (ew_op ov_eq (ew_var rfl) (ew_var rfl)))) (RaiseW.tt0 hx) h
        · refine aw_next ?_
          refine aw_seq ?_
          refine aw_if (tw_or (tw_not (tw_B (ew_isTup (ew_var rfl)))) (tw_test (ew_op ov_ne (ew_len (Ew.s (ew_var rfl))) (ew_len (Ew.s (ew_var rfl)))))) (RaiseW.tt0 hx) h (fun h => ?_) (fun h => ?_)
          · exact aw_ret hr ew_bl (RaiseW.tt0 hx) h
          · refine aw_next ?_
            refine aw_seq ?_
            refine aw_for (σT := Unit) (vs := [2]) (fun s => [.dat found, .dat due, .no]) (.keep (.keep (.keep .nil))) (fw_rng1 (ew_len (Ew.s (ew_var rfl)))) (fun F0 D => RetOk pc0 B F0 D rt) (rok_chain hr) hx h (fun F0 k9 s nx bk D hr hx hn hc hb h => ?_) (fun s h => ?_)
            · refine ⟨[.dat found, .dat due, .dat k9], tg_name (by decide), ?_⟩
              refine aw_if (tw_not (tw_B (ew_call (aw_cons (ew_ix (Ew.s (ew_var rfl)) (ew_var rfl)) (aw_cons (ew_ix (Ew.s (ew_var rfl)) (ew_var rfl)) aw_nil))))) (RaiseW.tt0 hx) h (fun h => ?_) (fun h => ?_)
              · exact aw_ret hr ew_bl (RaiseW.tt0 hx) h
              · refine aw_next ?_
                exact at_wk (.keep (.keep (.drop .nil))) (hn _ h)
            · exact aw_ret hr ew_bl (RaiseW.tt0 hx) h
end Eh

namespace Eh
open PySem PySem.Spec PyProof.Rows L2
/-! ### the talk laws: plain laws of what they share -/
def lsq : PyData → List PyData | .list xs => xs | .tuple xs => xs | _ => []
def isSq (d : PyData) : Bool := isLstD d || isTupD d
def ftB (d : PyData) (a b : Int) : Bool := match d with | .int i => decide (a ≤ i) && decide (i ≤ b) | _ => false
theorem seq_ok {d : PyData} {k : List PyData → Prop} (h : isSq d = true) (hk : k (lsq d)) : seqW d k := by cases d <;> first | exact hk | cases h
theorem orI_ok {t u : (Bool → Prop) → Prop} {p q : Prop} (b c : Bool) (h1 : ∀ k, k b → t k) (h2 : b = false → ∀ k, k c → u k) (hp : b = true ∨ c = true → p) (hq : b = false → c = false → q) : orW t u fun b => iteW b p q :=
  or_ok b h1 (fun e => h2 e _ (ite_ok (fun e2 => hp (.inr e2)) fun e2 => hq e e2)) fun e => iteT rfl (hp (.inl e))
theorem andI_ok {t u : (Bool → Prop) → Prop} {p q : Prop} (b c : Bool) (h1 : ∀ k, k b → t k) (h2 : b = true → ∀ k, k c → u k) (hp : b = true → c = true → p) (hq : b = false ∨ c = false → q) : andW t u fun b => iteW b p q :=
  and_ok b h1 (fun e => h2 e _ (ite_ok (fun e2 => hp e e2) fun e2 => hq (.inr e2))) fun e => iteF rfl (hq (.inl e))
section
variable {rt : PyData → Prop} {rn : List PyData → Prop} {er : XP} {d e : PyData} {n m : Nat}
theorem w_take {m : Nat} (h0 : 0 < m) (h1 : m < 1073741824) (h : ∀ r : Nat, r < m → rt (iD r)) : W__law_take (.int (m : Nat)) rt er := by unfold W__law_take; exact draw_ok h0 h1 h
theorem w_is_integer (h : rt (.bool (isIntD d))) : W_is_integer d rt er := by
  unfold W_is_integer
  cases d <;> exact h
theorem w_is_from_to {a b : Int} (h : rt (.bool (ftB d a b))) : W_is_from_to d (.int a) (.int b) rt er := by
  unfold W_is_from_to
  refine w_is_integer ?_
  cases d with
  | int i =>
    show iteW (decide (a ≤ i)) (rt (.bool (decide (i ≤ b)))) (rt (.bool false))
    have h : rt (.bool (decide (a ≤ i) && decide (i ≤ b))) := h
    cases e : decide (a ≤ i) with
    | true => rw [e] at h; exact h
    | false => rw [e] at h; exact h
  | _ => exact h
theorem w_check_number {a b : Int} (h1 : ftB d a b = true → rt .none) (h2 : ftB d a b = false → er "BadNumber" none) : W_check_number d (.int a) (.int b) rt er := by
  unfold W_check_number
  refine w_is_from_to ?_
  show iteW (!ftB d a b) _ _
  cases e : ftB d a b with
  | true => exact h1 e
  | false => exact h2 e
theorem ftB_nat {i : Nat} {b : Int} (h : (i : Int) ≤ b) : ftB (iD i) 0 b = true := by
  show (decide ((0 : Int) ≤ (i : Int)) && decide ((i : Int) ≤ b)) = true
  rw [decide_eq_true (by omega), decide_eq_true h]; rfl
theorem ftB_lt {a : Int} {b : Nat} (h : a < 2) (h0 : 0 ≤ a) : ftB (.int a) 0 1 = true := by
  show (decide ((0 : Int) ≤ a) && decide (a ≤ 1)) = true
  rw [decide_eq_true (by omega), decide_eq_true (by omega)]; rfl
end
theorem rngS_ok {i : Int} {k : List PyData → Prop} (h : -100000 ≤ i ∧ i ≤ 100000) (hk : k ((List.range i.toNat).map iD)) : rngW (.int i) k := ⟨h.1, h.2, hk⟩
theorem getD_some {α : Type} {xs : List α} {i : Nat} {d : α} (h : i < xs.length) : xs[i]? = some (xs.getD i d) := by
  rw [List.getD_eq_getElem?_getD, List.getElem?_eq_getElem h]; rfl
theorem cut_to {α : Type} (xs : List α) {i : Nat} (h : i ≤ xs.length) : cutD xs none (some (i : Int)) = xs.take i := by
  unfold cutD
  rw [show HT.sIx xs.length 0 none = 0 from rfl, List.drop_zero]
  congr 1
  unfold HT.sIx
  simp only
  split <;> omega
theorem cut_from {α : Type} (xs : List α) {i : Nat} (h : i ≤ xs.length) : cutD xs (some (i : Int)) none = xs.drop i := by
  unfold cutD
  have e1 : HT.sIx xs.length xs.length none = xs.length := rfl
  have e2 : HT.sIx xs.length 0 (some (i : Int)) = i := by
    unfold HT.sIx
    simp only
    split <;> omega
  rw [e1, e2, List.take_of_length_le (by rw [List.length_drop]; omega)]
theorem slI_to {xs : List PyData} {i : Nat} {k : DP} (h : i ≤ xs.length) (hk : k (.tuple (xs.take i))) : intW (iD i) fun j => slDW (.tuple xs) none (some j) k := by
  rw [← cut_to xs h] at hk; exact hk
theorem slI_from {xs : List PyData} {i : Nat} {k : DP} (h : i ≤ xs.length) (hk : k (.tuple (xs.drop i))) : intW (iD i) fun j => slDW (.tuple xs) (some j) none k := by
  rw [← cut_from xs h] at hk; exact hk
theorem slA_from {xs : List PyData} {i : Nat} {k : DP} (c : Nat) (h : i + c ≤ xs.length) (hk : k (.tuple (xs.drop (i + c)))) : addW (iD i) (.int c) fun t => intW t fun j => slDW (.tuple xs) (some j) none k := by
  show intW (.int ((i : Int) + (c : Int))) fun j => slDW (.tuple xs) (some j) none k
  rw [show ((i : Int) + (c : Int)) = ((i + c : Nat) : Int) by omega]
  exact slI_from h hk
theorem rng2_ok {i j : Nat} {k : List PyData → Prop} (h1 : i ≤ 100000) (h2 : j ≤ 100000) (hk : k ((List.range (j - i)).map fun t => iD (i + t))) : rng2W (.int i) (.int j) k := ⟨by omega, by omega, by omega, by omega, by
  have e : rgIJ i j = (List.range (j - i)).map fun t => iD (i + t) := by
    unfold rgIJ
    rw [show ((j : Int) - (i : Int)).toNat = j - i by omega]
    exact List.map_congr_left fun t _ => by
      show PyData.int _ = PyData.int _
      congr 1
  rw [e]; exact hk⟩
theorem take_map_range {α : Type} (f : Nat → α) {m i : Nat} (h : i < m) : ((List.range m).take (i + 1)).map f = ((List.range m).take i).map f ++ [f i] := by
  rw [List.take_add_one, List.getElem?_range h, List.map_append]; rfl
/-! the same answer -/
mutual
def sameD : Nat → PyData → Bool
  | 0, _ => false
  | _ + 1, .none => true
  | _ + 1, .bool _ => true
  | _ + 1, .int _ => true
  | f + 1, .tuple xs => decide (xs.length ≤ 1000) && sameAll f xs
  | _ + 1, _ => false
def sameAll : Nat → List PyData → Bool
  | _, [] => true
  | f, x :: xs => sameD f x && sameAll f xs
end
theorem sameAll_mem {f : Nat} : ∀ {xs : List PyData}, sameAll f xs = true → ∀ x ∈ xs, sameD f x = true
  | [], _, x, hx => absurd hx List.not_mem_nil
  | y :: ys, h, x, hx => by
    unfold sameAll at h
    rw [Bool.and_eq_true] at h
    rcases List.mem_cons.mp hx with rfl | hx
    · exact h.1
    · exact sameAll_mem h.2 x hx
theorem w_same : ∀ (f : Nat) {d : PyData} {rt : PyData → Prop} {er : XP}, sameD f d = true → rt (.bool true) → W__law_same f d d rt er
  | 0, d, rt, er, h, _ => by unfold sameD at h; cases h
  | f + 1, d, rt, er, h, k => by
    rw [W__law_same_succ]
    unfold S__law_same
    cases d with
    | none => exact k
    | bool b => exact ⟨rfl, rfl, by show rt (.bool (b == b)); rw [beq_self_eq_true]; exact k⟩
    | int i => exact eqI_ok (by rw [decide_eq_true rfl]; exact k)
    | tuple xs =>
      unfold sameD at h
      rw [Bool.and_eq_true, decide_eq_true_eq] at h
      refine iteF rfl (iteF rfl (iteF rfl ?_))
      refine orI_ok false false (fun k h => h) (fun _ k hk => ?_) (fun e => by rcases e with e | e <;> cases e) fun _ _ => ?_
      · exact neN_ok (i := xs.length) (j := xs.length) (by simpa using hk)
      · refine rng_ok (n := xs.length) (by omega) ?_
        refine for_const iD (fun q hq nx bk h1 h2 => ?_) k
        obtain ⟨x, hx⟩ : ∃ x, xs[q]? = some x := ⟨_, List.getElem?_eq_getElem (List.mem_range.mp hq)⟩
        exact ix_ok hx (ix_ok hx (w_same f (sameAll_mem h.2 x (List.mem_of_getElem? hx)) (iteF rfl h1)))
    | _ => unfold sameD at h; cases h
def xnT : List Str := ["JointError", "BadGroup", "BadTable", "BadText", "BadNumber", "BadWorlds", "BadSteps", "BadCalls", "BadDeals", "NotThere", "TooLarge", "NothingDone", "BadRow", "BadLine"]
theorem isX_ok {xn : List Str} {n X : Str} {b : Bool} {k : DP} (h1 : (xn.contains n && xn.contains X) = true) (hb : subX n X = b) (hk : k (.bool b)) : isXW xn n X k := by
  rw [Bool.and_eq_true, List.contains_iff_mem, List.contains_iff_mem] at h1
  exact ⟨h1.1, h1.2, by rw [hb]; exact hk⟩
theorem isV_ok {xn : List Str} {n : Str} {k : DP} (h1 : xn.contains n = true) (hk : k (.bool true)) : isVW xn n k := ⟨List.contains_iff_mem.mp h1, hk⟩
theorem catch_ok {xn : List Str} {n J : Str} {p q : Prop} (h1 : (xn.contains n && xn.contains J) = true) (hb : subX n J = true) (hk : p) : catchW xn n J p q := by
  rw [Bool.and_eq_true, List.contains_iff_mem, List.contains_iff_mem] at h1
  exact ⟨h1.1, h1.2, by rw [hb]; exact hk⟩
theorem bool_at {bs : List Bool} {k : Nat} (h : k < bs.length) : (bs.map PyData.bool)[k]? = some (.bool (bs.getD k false)) := by
  rw [List.getElem?_map, getD_some h]; rfl
theorem suf_BadNumber {rt : PyData → Prop} (h : rt (.list [.tuple [iD 0], .int 0])) : isXW xnT "BadNumber" "BadNumber" fun t8 => isXW xnT "BadNumber" "BadCalls" fun t9 => isXW xnT "BadNumber" "BadGroup" fun t10 => isXW xnT "BadNumber" "BadRow" fun t11 => dispL [t8, t9, t10, t11] fun l3 => fzW l3 fun kinds => lstW kinds fun l4 => isXW xnT "BadNumber" "BadDeals" fun t13 => isXW xnT "BadNumber" "BadLine" fun t14 => isXW xnT "BadNumber" "BadSteps" fun t15 => dispL [t13, t14, t15] fun l5 => catW l4 l5 fun l6 => fzW l6 fun kinds2 => lstW kinds2 fun l7 => isXW xnT "BadNumber" "BadTable" fun t17 => isXW xnT "BadNumber" "BadText" fun t18 => isXW xnT "BadNumber" "BadWorlds" fun t19 => dispL [t17, t18, t19] fun l8 => catW l7 l8 fun l9 => fzW l9 fun kinds3 => lstW kinds3 fun l10 => isXW xnT "BadNumber" "NothingDone" fun t21 => dispL [t21] fun l11 => catW l10 l11 fun l12 => fzW l12 fun kinds4 => lstW kinds4 fun l13 => isXW xnT "BadNumber" "NotThere" fun t23 => isXW xnT "BadNumber" "TooLarge" fun t24 => isVW xnT "BadNumber" fun t25 => notW t25 fun t26 => dispL [t23, t24, t26] fun l14 => catW l13 l14 fun l15 => fzW l15 fun kinds5 => letW (.int 0) fun place => joinW (fun k1 => isXW xnT "BadNumber" "BadRow" fun t29 => boolW t29 fun b2 => iteW b2 (plW "BadNumber" none fun place3 => k1 place3) (k1 place)) fun place2 => seqW kinds5 fun l16 => lenW l16 fun t31 => rngW t31 fun it1 => lcW it1 (fun k2 Y N => seqW kinds5 fun l17 => ixW l17 k2 fun t32 => boolW t32 fun b3 => iteW b3 (Y k2) N) fun l18 => tupW l18 fun t33 => dispL [t33, place2] fun l19 => fzW l19 fun t34 => rt t34 := by
  refine isX_ok (b := true) (by decide +kernel) (by decide +kernel) ?_
  refine isX_ok (b := false) (by decide +kernel) (by decide +kernel) ?_
  refine isX_ok (b := false) (by decide +kernel) (by decide +kernel) ?_
  refine isX_ok (b := false) (by decide +kernel) (by decide +kernel) ?_
  refine ⟨by decide, ?_⟩
  refine isX_ok (b := false) (by decide +kernel) (by decide +kernel) ?_
  refine isX_ok (b := false) (by decide +kernel) (by decide +kernel) ?_
  refine isX_ok (b := false) (by decide +kernel) (by decide +kernel) ?_
  refine ⟨by decide, ⟨by decide, ?_⟩⟩
  refine isX_ok (b := false) (by decide +kernel) (by decide +kernel) ?_
  refine isX_ok (b := false) (by decide +kernel) (by decide +kernel) ?_
  refine isX_ok (b := false) (by decide +kernel) (by decide +kernel) ?_
  refine ⟨by decide, ⟨by decide, ?_⟩⟩
  refine isX_ok (b := false) (by decide +kernel) (by decide +kernel) ?_
  refine ⟨by decide, ⟨by decide, ?_⟩⟩
  refine isX_ok (b := false) (by decide +kernel) (by decide +kernel) ?_
  refine isX_ok (b := false) (by decide +kernel) (by decide +kernel) ?_
  refine isV_ok (by decide +kernel) ?_
  refine ⟨by decide, ⟨by decide, ?_⟩⟩
  refine isX_ok (b := false) (by decide +kernel) (by decide +kernel) ?_
  refine iteF rfl ?_
  refine rng_ok (n := 14) (by decide) ?_
  refine lc_ok (xs := List.range 14) iD iD (fun k => ([true, false, false, false, false, false, false, false, false, false, false, false, false, false] : List Bool).getD k false) (by decide) (fun k hk Y N hY hN => ?_) ⟨Nat.le_of_ble_eq_true rfl, h⟩
  refine ix_ok (d := .bool (([true, false, false, false, false, false, false, false, false, false, false, false, false, false] : List Bool).getD k false)) ?_ (ite_ok hY hN)
  exact bool_at (bs := [true, false, false, false, false, false, false, false, false, false, false, false, false, false]) (List.mem_range.mp hk)
theorem suf_BadCalls {rt : PyData → Prop} (h : rt (.list [.tuple [iD 1], .int 0])) : isXW xnT "BadCalls" "BadNumber" fun t8 => isXW xnT "BadCalls" "BadCalls" fun t9 => isXW xnT "BadCalls" "BadGroup" fun t10 => isXW xnT "BadCalls" "BadRow" fun t11 => dispL [t8, t9, t10, t11] fun l3 => fzW l3 fun kinds => lstW kinds fun l4 => isXW xnT "BadCalls" "BadDeals" fun t13 => isXW xnT "BadCalls" "BadLine" fun t14 => isXW xnT "BadCalls" "BadSteps" fun t15 => dispL [t13, t14, t15] fun l5 => catW l4 l5 fun l6 => fzW l6 fun kinds2 => lstW kinds2 fun l7 => isXW xnT "BadCalls" "BadTable" fun t17 => isXW xnT "BadCalls" "BadText" fun t18 => isXW xnT "BadCalls" "BadWorlds" fun t19 => dispL [t17, t18, t19] fun l8 => catW l7 l8 fun l9 => fzW l9 fun kinds3 => lstW kinds3 fun l10 => isXW xnT "BadCalls" "NothingDone" fun t21 => dispL [t21] fun l11 => catW l10 l11 fun l12 => fzW l12 fun kinds4 => lstW kinds4 fun l13 => isXW xnT "BadCalls" "NotThere" fun t23 => isXW xnT "BadCalls" "TooLarge" fun t24 => isVW xnT "BadCalls" fun t25 => notW t25 fun t26 => dispL [t23, t24, t26] fun l14 => catW l13 l14 fun l15 => fzW l15 fun kinds5 => letW (.int 0) fun place => joinW (fun k1 => isXW xnT "BadCalls" "BadRow" fun t29 => boolW t29 fun b2 => iteW b2 (plW "BadCalls" none fun place3 => k1 place3) (k1 place)) fun place2 => seqW kinds5 fun l16 => lenW l16 fun t31 => rngW t31 fun it1 => lcW it1 (fun k2 Y N => seqW kinds5 fun l17 => ixW l17 k2 fun t32 => boolW t32 fun b3 => iteW b3 (Y k2) N) fun l18 => tupW l18 fun t33 => dispL [t33, place2] fun l19 => fzW l19 fun t34 => rt t34 := by
  refine isX_ok (b := false) (by decide +kernel) (by decide +kernel) ?_
  refine isX_ok (b := true) (by decide +kernel) (by decide +kernel) ?_
  refine isX_ok (b := false) (by decide +kernel) (by decide +kernel) ?_
  refine isX_ok (b := false) (by decide +kernel) (by decide +kernel) ?_
  refine ⟨by decide, ?_⟩
  refine isX_ok (b := false) (by decide +kernel) (by decide +kernel) ?_
  refine isX_ok (b := false) (by decide +kernel) (by decide +kernel) ?_
  refine isX_ok (b := false) (by decide +kernel) (by decide +kernel) ?_
  refine ⟨by decide, ⟨by decide, ?_⟩⟩
  refine isX_ok (b := false) (by decide +kernel) (by decide +kernel) ?_
  refine isX_ok (b := false) (by decide +kernel) (by decide +kernel) ?_
  refine isX_ok (b := false) (by decide +kernel) (by decide +kernel) ?_
  refine ⟨by decide, ⟨by decide, ?_⟩⟩
  refine isX_ok (b := false) (by decide +kernel) (by decide +kernel) ?_
  refine ⟨by decide, ⟨by decide, ?_⟩⟩
  refine isX_ok (b := false) (by decide +kernel) (by decide +kernel) ?_
  refine isX_ok (b := false) (by decide +kernel) (by decide +kernel) ?_
  refine isV_ok (by decide +kernel) ?_
  refine ⟨by decide, ⟨by decide, ?_⟩⟩
  refine isX_ok (b := false) (by decide +kernel) (by decide +kernel) ?_
  refine iteF rfl ?_
  refine rng_ok (n := 14) (by decide) ?_
  refine lc_ok (xs := List.range 14) iD iD (fun k => ([false, true, false, false, false, false, false, false, false, false, false, false, false, false] : List Bool).getD k false) (by decide) (fun k hk Y N hY hN => ?_) ⟨Nat.le_of_ble_eq_true rfl, h⟩
  refine ix_ok (d := .bool (([false, true, false, false, false, false, false, false, false, false, false, false, false, false] : List Bool).getD k false)) ?_ (ite_ok hY hN)
  exact bool_at (bs := [false, true, false, false, false, false, false, false, false, false, false, false, false, false]) (List.mem_range.mp hk)
theorem suf_BadGroup {rt : PyData → Prop} (h : rt (.list [.tuple [iD 2], .int 0])) : isXW xnT "BadGroup" "BadNumber" fun t8 => isXW xnT "BadGroup" "BadCalls" fun t9 => isXW xnT "BadGroup" "BadGroup" fun t10 => isXW xnT "BadGroup" "BadRow" fun t11 => dispL [t8, t9, t10, t11] fun l3 => fzW l3 fun kinds => lstW kinds fun l4 => isXW xnT "BadGroup" "BadDeals" fun t13 => isXW xnT "BadGroup" "BadLine" fun t14 => isXW xnT "BadGroup" "BadSteps" fun t15 => dispL [t13, t14, t15] fun l5 => catW l4 l5 fun l6 => fzW l6 fun kinds2 => lstW kinds2 fun l7 => isXW xnT "BadGroup" "BadTable" fun t17 => isXW xnT "BadGroup" "BadText" fun t18 => isXW xnT "BadGroup" "BadWorlds" fun t19 => dispL [t17, t18, t19] fun l8 => catW l7 l8 fun l9 => fzW l9 fun kinds3 => lstW kinds3 fun l10 => isXW xnT "BadGroup" "NothingDone" fun t21 => dispL [t21] fun l11 => catW l10 l11 fun l12 => fzW l12 fun kinds4 => lstW kinds4 fun l13 => isXW xnT "BadGroup" "NotThere" fun t23 => isXW xnT "BadGroup" "TooLarge" fun t24 => isVW xnT "BadGroup" fun t25 => notW t25 fun t26 => dispL [t23, t24, t26] fun l14 => catW l13 l14 fun l15 => fzW l15 fun kinds5 => letW (.int 0) fun place => joinW (fun k1 => isXW xnT "BadGroup" "BadRow" fun t29 => boolW t29 fun b2 => iteW b2 (plW "BadGroup" none fun place3 => k1 place3) (k1 place)) fun place2 => seqW kinds5 fun l16 => lenW l16 fun t31 => rngW t31 fun it1 => lcW it1 (fun k2 Y N => seqW kinds5 fun l17 => ixW l17 k2 fun t32 => boolW t32 fun b3 => iteW b3 (Y k2) N) fun l18 => tupW l18 fun t33 => dispL [t33, place2] fun l19 => fzW l19 fun t34 => rt t34 := by
  refine isX_ok (b := false) (by decide +kernel) (by decide +kernel) ?_
  refine isX_ok (b := false) (by decide +kernel) (by decide +kernel) ?_
  refine isX_ok (b := true) (by decide +kernel) (by decide +kernel) ?_
  refine isX_ok (b := false) (by decide +kernel) (by decide +kernel) ?_
  refine ⟨by decide, ?_⟩
  refine isX_ok (b := false) (by decide +kernel) (by decide +kernel) ?_
  refine isX_ok (b := false) (by decide +kernel) (by decide +kernel) ?_
  refine isX_ok (b := false) (by decide +kernel) (by decide +kernel) ?_
  refine ⟨by decide, ⟨by decide, ?_⟩⟩
  refine isX_ok (b := false) (by decide +kernel) (by decide +kernel) ?_
  refine isX_ok (b := false) (by decide +kernel) (by decide +kernel) ?_
  refine isX_ok (b := false) (by decide +kernel) (by decide +kernel) ?_
  refine ⟨by decide, ⟨by decide, ?_⟩⟩
  refine isX_ok (b := false) (by decide +kernel) (by decide +kernel) ?_
  refine ⟨by decide, ⟨by decide, ?_⟩⟩
  refine isX_ok (b := false) (by decide +kernel) (by decide +kernel) ?_
  refine isX_ok (b := false) (by decide +kernel) (by decide +kernel) ?_
  refine isV_ok (by decide +kernel) ?_
  refine ⟨by decide, ⟨by decide, ?_⟩⟩
  refine isX_ok (b := false) (by decide +kernel) (by decide +kernel) ?_
  refine iteF rfl ?_
  refine rng_ok (n := 14) (by decide) ?_
  refine lc_ok (xs := List.range 14) iD iD (fun k => ([false, false, true, false, false, false, false, false, false, false, false, false, false, false] : List Bool).getD k false) (by decide) (fun k hk Y N hY hN => ?_) ⟨Nat.le_of_ble_eq_true rfl, h⟩
  refine ix_ok (d := .bool (([false, false, true, false, false, false, false, false, false, false, false, false, false, false] : List Bool).getD k false)) ?_ (ite_ok hY hN)
  exact bool_at (bs := [false, false, true, false, false, false, false, false, false, false, false, false, false, false]) (List.mem_range.mp hk)
theorem suf_BadRow {rt : PyData → Prop} {p : Int} (h : rt (.list [.tuple [iD 3], .int p])) : isXW xnT "BadRow" "BadNumber" fun t8 => isXW xnT "BadRow" "BadCalls" fun t9 => isXW xnT "BadRow" "BadGroup" fun t10 => isXW xnT "BadRow" "BadRow" fun t11 => dispL [t8, t9, t10, t11] fun l3 => fzW l3 fun kinds => lstW kinds fun l4 => isXW xnT "BadRow" "BadDeals" fun t13 => isXW xnT "BadRow" "BadLine" fun t14 => isXW xnT "BadRow" "BadSteps" fun t15 => dispL [t13, t14, t15] fun l5 => catW l4 l5 fun l6 => fzW l6 fun kinds2 => lstW kinds2 fun l7 => isXW xnT "BadRow" "BadTable" fun t17 => isXW xnT "BadRow" "BadText" fun t18 => isXW xnT "BadRow" "BadWorlds" fun t19 => dispL [t17, t18, t19] fun l8 => catW l7 l8 fun l9 => fzW l9 fun kinds3 => lstW kinds3 fun l10 => isXW xnT "BadRow" "NothingDone" fun t21 => dispL [t21] fun l11 => catW l10 l11 fun l12 => fzW l12 fun kinds4 => lstW kinds4 fun l13 => isXW xnT "BadRow" "NotThere" fun t23 => isXW xnT "BadRow" "TooLarge" fun t24 => isVW xnT "BadRow" fun t25 => notW t25 fun t26 => dispL [t23, t24, t26] fun l14 => catW l13 l14 fun l15 => fzW l15 fun kinds5 => letW (.int 0) fun place => joinW (fun k1 => isXW xnT "BadRow" "BadRow" fun t29 => boolW t29 fun b2 => iteW b2 (plW "BadRow" (some p) fun place3 => k1 place3) (k1 place)) fun place2 => seqW kinds5 fun l16 => lenW l16 fun t31 => rngW t31 fun it1 => lcW it1 (fun k2 Y N => seqW kinds5 fun l17 => ixW l17 k2 fun t32 => boolW t32 fun b3 => iteW b3 (Y k2) N) fun l18 => tupW l18 fun t33 => dispL [t33, place2] fun l19 => fzW l19 fun t34 => rt t34 := by
  refine isX_ok (b := false) (by decide +kernel) (by decide +kernel) ?_
  refine isX_ok (b := false) (by decide +kernel) (by decide +kernel) ?_
  refine isX_ok (b := false) (by decide +kernel) (by decide +kernel) ?_
  refine isX_ok (b := true) (by decide +kernel) (by decide +kernel) ?_
  refine ⟨by decide, ?_⟩
  refine isX_ok (b := false) (by decide +kernel) (by decide +kernel) ?_
  refine isX_ok (b := false) (by decide +kernel) (by decide +kernel) ?_
  refine isX_ok (b := false) (by decide +kernel) (by decide +kernel) ?_
  refine ⟨by decide, ⟨by decide, ?_⟩⟩
  refine isX_ok (b := false) (by decide +kernel) (by decide +kernel) ?_
  refine isX_ok (b := false) (by decide +kernel) (by decide +kernel) ?_
  refine isX_ok (b := false) (by decide +kernel) (by decide +kernel) ?_
  refine ⟨by decide, ⟨by decide, ?_⟩⟩
  refine isX_ok (b := false) (by decide +kernel) (by decide +kernel) ?_
  refine ⟨by decide, ⟨by decide, ?_⟩⟩
  refine isX_ok (b := false) (by decide +kernel) (by decide +kernel) ?_
  refine isX_ok (b := false) (by decide +kernel) (by decide +kernel) ?_
  refine isV_ok (by decide +kernel) ?_
  refine ⟨by decide, ⟨by decide, ?_⟩⟩
  refine isX_ok (b := true) (by decide +kernel) (by decide +kernel) ?_
  refine iteT rfl ⟨rfl, ?_⟩
  refine rng_ok (n := 14) (by decide) ?_
  refine lc_ok (xs := List.range 14) iD iD (fun k => ([false, false, false, true, false, false, false, false, false, false, false, false, false, false] : List Bool).getD k false) (by decide) (fun k hk Y N hY hN => ?_) ⟨Nat.le_of_ble_eq_true rfl, h⟩
  refine ix_ok (d := .bool (([false, false, false, true, false, false, false, false, false, false, false, false, false, false] : List Bool).getD k false)) ?_ (ite_ok hY hN)
  exact bool_at (bs := [false, false, false, true, false, false, false, false, false, false, false, false, false, false]) (List.mem_range.mp hk)
end Eh

namespace Eh
open PySem PySem.Spec PyProof.Rows L2
variable {A : Str → Addr} {K : PySem.W.Frag} {w : World}
abbrev N_check_numbers : List Str := ["value", "many", "most", "place", "number"]
def t_check_numbers (K : PySem.W.Frag) (w : World) (C_BadRow : Addr) (sp_is_from_to : Sp) (E : XK) : TS :=
  (tSeq (tIfS (tOr (tNot (tB (tCB (rIsiT K) (tCons (tVar 0) (tCons (tTup (tCons (tC (.ty "list")) (tCons (tC (.ty "tuple")) tNil))) tNil))))) (tTest (tOp (rNeA K) (tCB (rLenA K) (tCons (tVar 0) tNil)) (tVar 1)))) (tRaiseO E C_BadRow "place" (tC (.int 0))) tNext)
    (tFor (iEnumA K (tCons (tVar 0) tNil)) (gTup K 2 (gCons (gName 3) (gCons (gName 4) gNil))) (tIfS (tNot (tB (tCall sp_is_from_to [] E (tCons (tVar 4) (tCons (tC (.int 0)) (tCons (tVar 2) tNil)))))) (tRaiseO E C_BadRow "place" (tVar 3)) tNext)))
@[irreducible] def W_check_numbers (value : PyData) (many : PyData) (most : PyData) (rt : PyData → Prop) (er : XP) : Prop :=
  orW (fun k1 => isLTW value fun t1 => boolW t1 fun b1 => k1 (!b1)) (fun k2 => seqW value fun l1 => lenW l1 fun t2 => neW t2 many fun t3 => boolW t3 fun b2 => k2 b2) fun b3 => iteW b3 (intW (.int 0) fun i => er "BadRow" (some [("place", V.int i)])) (seqW value fun l2 => letW (enumD l2) fun it1 => forW (σ := Unit) (fun x1 s nx bk => un2W x1 fun place number => W_is_from_to number (.int 0) most (fun t4 => boolW t4 fun b4 => iteW (!b4) (intW place fun i => er "BadRow" (some [("place", V.int i)])) (nx ())) er) (fun s => rt .none) it1 ())
theorem P_check_numbers (vs : List V) (H : Hp) (Q : VK) (E : XK) (h : spF A (vl3 W_check_numbers) vs H Q E) : t_check_numbers K w (A "BadRow") (spF A (vl3 W_is_from_to)) E { nx := fun _ H' => Q .non H', rt := Q } (L2.start N_check_numbers vs) H :=
  spF_body (N := N_check_numbers) (t := fun E => t_check_numbers K w (A "BadRow") (spF A (vl3 W_is_from_to)) E) h fun ds rt er B F0 D hW hr hx hn => by
    obtain ⟨value, many, most, rfl, h⟩ := vl3_inv hW
    unfold W_check_numbers at h
    show At pc0 B F0 [.dat value, .dat many, .dat most, .no, .no] (t_check_numbers K w (A "BadRow") (spF A (vl3 W_is_from_to)) E D)
    refine aw_seq ?_
    refine aw_if (tw_or (tw_not (tw_B (ew_isLT (ew_var rfl)))) (tw_test (ew_op ov_ne (ew_len (Ew.s (ew_var rfl))) (ew_var rfl)))) (RaiseW.tt0 hx) h (fun h => ?_) (fun h => ?_)
    · exact aw_raiseO "BadRow" ew_int hx h
    · refine aw_next ?_
      refine aw_for (σT := Unit) (vs := [3, 4]) (fun s => [.dat value, .dat many, .dat most, .no, .no]) (.keep (.keep (.keep (.keep (.keep .nil))))) (fw_enum (ew_var rfl)) (fun F0 D => RetOk pc0 B F0 D rt) (rok_chain hr) hx h (fun F0 x1 s nx bk D hr hx hn hc hb h => ?_) (fun s h => ?_)
      · obtain ⟨place, number, h, tg⟩ := tg_un2 (vs := [3, 4]) (i := 3) (j := 4) (by decide) (by decide) h
        refine ⟨[.dat value, .dat many, .dat most, .dat place, .dat number], tg, ?_⟩
        refine aw_if (tw_not (tw_B (ew_call (aw_cons (ew_var rfl) (aw_cons ew_int (aw_cons (ew_var rfl) aw_nil)))))) (RaiseW.tt0 hx) h (fun h => ?_) (fun h => ?_)
        · exact aw_raiseO "BadRow" (ew_var rfl) hx h
        · refine aw_next ?_
          exact at_wk (.keep (.keep (.keep (.drop (.drop .nil))))) (hn _ h)
      · exact hn h _
abbrev N_are_pairs : List Str := ["value", "people", "pair", "i", "j"]
def t_are_pairs (K : PySem.W.Frag) (w : World) (sp_is_from_to : Sp) (E : XK) : TS :=
  (tSeq (tIfS (tOr (tNot (tB (tCB (rIsi K) (tCons (tVar 0) (tCons (tC (.ty "tuple")) tNil))))) (tNot (tB (tCB (rAll K) (tCons (tLc (iSeq K (tVar 0)) (gName 2) tYes (tAndV (tCB (rIsi K) (tCons (tVar 2) (tCons (tC (.ty "tuple")) tNil))) (tOp (rEqA K) (tCB (rLenA K) (tCons (tVar 2) tNil)) (tC (.int 2)))) [2]) tNil))))) (tRet (tC (.bl false))) tNext)
    (tRet (tCB (rAll K) (tCons (tLc (iSeq K (tVar 0)) (gTup K 2 (gCons (gName 3) (gCons (gName 4) gNil))) tYes (tAndV (tCall sp_is_from_to [] E0 (tCons (tVar 3) (tCons (tC (.int 0)) (tCons (tOp rSubI (tVar 1) (tC (.int 1))) tNil)))) (tAndV (tCall sp_is_from_to [] E0 (tCons (tVar 4) (tCons (tC (.int 0)) (tCons (tOp rSubI (tVar 1) (tC (.int 1))) tNil)))) (tOp rLtI (tVar 3) (tVar 4)))) [3, 4]) tNil))))
@[irreducible] def W_are_pairs (value : PyData) (people : PyData) (rt : PyData → Prop) (er : XP) : Prop :=
  orW (fun k3 => isTupW value fun t1 => boolW t1 fun b1 => k3 (!b1)) (fun k4 => seqW value fun l1 => lcMW l1 (fun pair Y => andVW (fun k1 => isTupW pair fun t2 => k1 t2) (fun k2 => seqW pair fun l2 => lenW l2 fun t3 => eqW t3 (.int 2) fun t4 => k2 t4) fun t5 => Y t5) fun l3 => allW l3 fun t6 => boolW t6 fun b2 => k4 (!b2)) fun b3 => iteW b3 (rt (.bool false)) (seqW value fun l4 => lcMW l4 (fun x1 Y2 => un2W x1 fun i j => andVW (fun k7 => subW people (.int 1) fun t8 => W_is_from_to i (.int 0) t8 (fun t7 => k7 t7) noX) (fun k8 => andVW (fun k5 => subW people (.int 1) fun t10 => W_is_from_to j (.int 0) t10 (fun t9 => k5 t9) noX) (fun k6 => ltW i j fun t11 => k6 t11) fun t12 => k8 t12) fun t13 => Y2 t13) fun l5 => allW l5 fun t14 => rt t14)
theorem P_are_pairs (vs : List V) (H : Hp) (Q : VK) (E : XK) (h : spF A (vl2 W_are_pairs) vs H Q E) : t_are_pairs K w (spF A (vl3 W_is_from_to)) E { nx := fun _ H' => Q .non H', rt := Q } (L2.start N_are_pairs vs) H :=
  spF_body (N := N_are_pairs) (t := fun E => t_are_pairs K w (spF A (vl3 W_is_from_to)) E) h fun ds rt er B F0 D hW hr hx hn => by
    obtain ⟨value, people, rfl, h⟩ := vl2_inv hW
    unfold W_are_pairs at h
    show At pc0 B F0 [.dat value, .dat people, .no, .no, .no] (t_are_pairs K w (spF A (vl3 W_is_from_to)) E D)
    refine aw_seq ?_
    refine aw_if (tw_or (tw_not (tw_B (ew_isTup (ew_var rfl)))) (tw_not (tw_B (ew_all (Nw.ls (nw_lcM (iw_seq (Ew.s (ew_var rfl))) (fun x Y h => ⟨_, _, tg_name (by decide), (ew_andV (ew_isTup (ew_var rfl)) (ew_op ov_eq (ew_len (Ew.s (ew_var rfl))) ew_int)), h⟩))))))) (RaiseW.tt0 hx) h (fun h => ?_) (fun h => ?_)
    · exact aw_ret hr ew_bl (RaiseW.tt0 hx) h
    · refine aw_next ?_
      exact aw_ret hr (ew_all (Nw.ls (nw_lcM (iw_seq (Ew.s (ew_var rfl))) (fun x Y h => by obtain ⟨_, _, h, tg⟩ := tg_un2 (vs := [3, 4]) (i := 3) (j := 4) (by decide) (by decide) h; exact ⟨_, _, tg, (ew_andV (ew_call (aw_cons (ew_var rfl) (aw_cons ew_int (aw_cons (ew_op ov_sub (ew_var rfl) ew_int) aw_nil)))) (ew_andV (ew_call (aw_cons (ew_var rfl) (aw_cons ew_int (aw_cons (ew_op ov_sub (ew_var rfl) ew_int) aw_nil)))) (ew_op ov_lt (ew_var rfl) (ew_var rfl)))), h⟩)))) (RaiseW.tt0 hx) h
abbrev N_check_edges : List Str := ["people", "value", "k"]
def t_check_edges (K : PySem.W.Frag) (w : World) (C_BadCalls : Addr) (sp_are_pairs : Sp) (E : XK) : TS :=
  (tIfS (tOr (tNot (tB (tCall sp_are_pairs [] E (tCons (tVar 1) (tCons (tVar 0) tNil))))) (tNot (tB (tCB (rAll K) (tCons (tLc (iRng1 (tCons (tOp rSubI (tCB (rLenA K) (tCons (tVar 1) tNil)) (tC (.int 1))) tNil)) (gName 2) tYes (tOp (rLtA K) (tOp (rIx K) (tVar 1) (tVar 2)) (tOp (rIx K) (tVar 1) (tOp (rAddA K) (tVar 2) (tC (.int 1))))) [2]) tNil))))) (tRaiseC E C_BadCalls) tNext)
@[irreducible] def W_check_edges (people : PyData) (value : PyData) (rt : PyData → Prop) (er : XP) : Prop :=
  orW (fun k2 => W_are_pairs value people (fun t1 => boolW t1 fun b1 => k2 (!b1)) er) (fun k3 => seqW value fun l1 => lenW l1 fun t2 => subW t2 (.int 1) fun t3 => rngW t3 fun it1 => lcMW it1 (fun k1 Y => seqW value fun l2 => ixW l2 k1 fun t4 => seqW value fun l3 => addW k1 (.int 1) fun t5 => ixW l3 t5 fun t6 => ltAW t4 t6 fun t7 => Y t7) fun l4 => allW l4 fun t8 => boolW t8 fun b2 => k3 (!b2)) fun b3 => iteW b3 (er "BadCalls" none) (rt .none)
theorem P_check_edges (vs : List V) (H : Hp) (Q : VK) (E : XK) (h : spF A (vl2 W_check_edges) vs H Q E) : t_check_edges K w (A "BadCalls") (spF A (vl2 W_are_pairs)) E { nx := fun _ H' => Q .non H', rt := Q } (L2.start N_check_edges vs) H :=
  spF_body (N := N_check_edges) (t := fun E => t_check_edges K w (A "BadCalls") (spF A (vl2 W_are_pairs)) E) h fun ds rt er B F0 D hW hr hx hn => by
    obtain ⟨people, value, rfl, h⟩ := vl2_inv hW
    unfold W_check_edges at h
    show At pc0 B F0 [.dat people, .dat value, .no] (t_check_edges K w (A "BadCalls") (spF A (vl2 W_are_pairs)) E D)
    refine aw_if (tw_or (tw_not (tw_B (ew_call (aw_cons (ew_var rfl) (aw_cons (ew_var rfl) aw_nil))))) (tw_not (tw_B (ew_all (Nw.ls (nw_lcM (Fw.it (fw_rng1 (ew_op ov_sub (ew_len (Ew.s (ew_var rfl))) ew_int))) (fun x Y h => ⟨_, _, tg_name (by decide), (ew_op ov_ltA (ew_ix (Ew.s (ew_var rfl)) (ew_var rfl)) (ew_ix (Ew.s (ew_var rfl)) (ew_op ov_add (ew_var rfl) ew_int))), h⟩))))))) (RaiseW.tt0 hx) h (fun h => ?_) (fun h => ?_)
    · exact aw_raise "BadCalls" hx h
    · refine aw_next ?_
      exact hn h _
abbrev N_check_bits : List Str := ["value", "many"]
def t_check_bits (K : PySem.W.Frag) (w : World) (sp_check_numbers : Sp) (E : XK) : TS :=
  (tDrop (tCall sp_check_numbers [] E (tCons (tVar 0) (tCons (tVar 1) (tCons (tC (.int 1)) tNil)))))
@[irreducible] def W_check_bits (value : PyData) (many : PyData) (rt : PyData → Prop) (er : XP) : Prop :=
  W_check_numbers value many (.int 1) (fun t1 => rt .none) er
theorem P_check_bits (vs : List V) (H : Hp) (Q : VK) (E : XK) (h : spF A (vl2 W_check_bits) vs H Q E) : t_check_bits K w (spF A (vl3 W_check_numbers)) E { nx := fun _ H' => Q .non H', rt := Q } (L2.start N_check_bits vs) H :=
  spF_body (N := N_check_bits) (t := fun E => t_check_bits K w (spF A (vl3 W_check_numbers)) E) h fun ds rt er B F0 D hW hr hx hn => by
    obtain ⟨value, many, rfl, h⟩ := vl2_inv hW
    unfold W_check_bits at h
    show At pc0 B F0 [.dat value, .dat many] (t_check_bits K w (spF A (vl3 W_check_numbers)) E D)
    refine aw_drop (ew_call (aw_cons (ew_var rfl) (aw_cons (ew_var rfl) (aw_cons ew_int aw_nil)))) (RaiseW.tt0 hx) h (fun _ h => ?_)
    exact hn h _
abbrev N_check_round : List Str := ["n", "edges"]
def t_check_round (K : PySem.W.Frag) (w : World) (sp_check_edges : Sp) (sp_check_number : Sp) (E : XK) : TS :=
  (tSeq (tDrop (tCall sp_check_number [] E (tCons (tVar 0) (tCons (tC (.int 2)) (tCons (tC (.int 6)) tNil)))))
    (tDrop (tCall sp_check_edges [] E (tCons (tVar 0) (tCons (tVar 1) tNil)))))
@[irreducible] def W_check_round (n : PyData) (edges : PyData) (rt : PyData → Prop) (er : XP) : Prop :=
  W_check_number n (.int 2) (.int 6) (fun t1 => W_check_edges n edges (fun t2 => rt .none) er) er
theorem P_check_round (vs : List V) (H : Hp) (Q : VK) (E : XK) (h : spF A (vl2 W_check_round) vs H Q E) : t_check_round K w (spF A (vl2 W_check_edges)) (spF A (vl3 W_check_number)) E { nx := fun _ H' => Q .non H', rt := Q } (L2.start N_check_round vs) H :=
  spF_body (N := N_check_round) (t := fun E => t_check_round K w (spF A (vl2 W_check_edges)) (spF A (vl3 W_check_number)) E) h fun ds rt er B F0 D hW hr hx hn => by
    obtain ⟨n, edges, rfl, h⟩ := vl2_inv hW
    unfold W_check_round at h
    show At pc0 B F0 [.dat n, .dat edges] (t_check_round K w (spF A (vl2 W_check_edges)) (spF A (vl3 W_check_number)) E D)
    refine aw_seq ?_
    refine aw_drop (ew_call (aw_cons (ew_var rfl) (aw_cons ew_int (aw_cons ew_int aw_nil)))) (RaiseW.tt0 hx) h (fun _ h => ?_)
    refine aw_drop (ew_call (aw_cons (ew_var rfl) (aw_cons (ew_var rfl) aw_nil))) (RaiseW.tt0 hx) h (fun _ h => ?_)
    exact hn h _
abbrev N__law_ties : List Str := ["pool", "n", "pairs", "i", "j", "shape", "middle", "side", "rare", "pair", "k"]
def t__law_ties (K : PySem.W.Frag) (w : World) (sp__law_take : Sp) (E : XK) : TS :=
  (tSeq (tAsg (tLst tNil) (gName 2))
    (tSeq (tFor (iRng1 (tCons (tVar 1) tNil)) (gName 3) (tFor (iRng2 (tCons (tOp (rAddA K) (tVar 3) (tC (.int 1))) (tCons (tVar 1) tNil))) (gName 4) (tDrop (tBM K "list" rAppend (tVar 2) (tCons (tTup (tCons (tVar 3) (tCons (tVar 4) tNil))) tNil)))))
    (tSeq (tAsg (tCall sp__law_take [] E (tCons (tVar 0) (tCons (tC (.int 7)) tNil))) (gName 5))
    (tSeq (tIfS (tTest (tOp (rEqA K) (tVar 5) (tC (.int 0)))) (tRet (tThen (tVar 2) (kTup K))) tNext)
    (tSeq (tIfS (tTest (tOp (rEqA K) (tVar 5) (tC (.int 1)))) (tRet (tThen (tLc (iSeq K (tVar 2)) (gName 9) (tOr (tTest (tOp (rEqA K) (tOp (rIx K) (tVar 9) (tC (.int 1))) (tOp (rAddA K) (tOp (rIx K) (tVar 9) (tC (.int 0))) (tC (.int 1))))) (tTest (tOp (rEqA K) (tVar 9) (tTup (tCons (tC (.int 0)) (tCons (tOp rSubI (tVar 1) (tC (.int 1))) tNil)))))) (tVar 9) [9]) (kTup K))) tNext)
    (tSeq (tIfS (tTest (tOp (rEqA K) (tVar 5) (tC (.int 2)))) (tSeq (tAsg (tCall sp__law_take [] E (tCons (tVar 0) (tCons (tVar 1) tNil))) (gName 6))
    (tRet (tThen (tLc (iSeq K (tVar 2)) (gName 9) (tTest (tOp (rInA K) (tVar 6) (tVar 9))) (tVar 9) [9]) (kTup K)))) tNext)
    (tSeq (tIfS (tTest (tOp (rEqA K) (tVar 5) (tC (.int 3)))) (tSeq (tAsg (tLc (iRng1 (tCons (tVar 1) tNil)) (gName 10) tYes (tCall sp__law_take [] E0 (tCons (tVar 0) (tCons (tC (.int 2)) tNil))) [10]) (gName 7))
    (tAsg (tLc (iSeq K (tVar 2)) (gName 9) (tTest (tOp (rEqA K) (tOp (rIx K) (tVar 7) (tOp (rIx K) (tVar 9) (tC (.int 0)))) (tOp (rIx K) (tVar 7) (tOp (rIx K) (tVar 9) (tC (.int 1)))))) (tVar 9) [9]) (gName 2))) tNext)
    (tSeq (tAsg (tOp (rAddA K) (tC (.int 2)) (tCall sp__law_take [] E (tCons (tVar 0) (tCons (tC (.int 3)) tNil)))) (gName 8))
    (tRet (tThen (tLc (iSeq K (tVar 2)) (gName 9) (tTest (tOp (rEqA K) (tCall sp__law_take [] E0 (tCons (tVar 0) (tCons (tVar 8) tNil))) (tC (.int 0)))) (tVar 9) [9]) (kTup K)))))))))))
@[irreducible] def W__law_ties (n : PyData) (rt : PyData → Prop) (er : XP) : Prop :=
  dispL [] fun pairs => rngW n fun it1 => forW (σ := List PyData) (fun i s nx bk => addW i (.int 1) fun t1 => rng2W t1 n fun it2 => forW (σ := List PyData) (fun j s_2 nx bk => dispT [i, j] fun t2 => appW s_2 t2 fun pairs2 => nx pairs2) (fun s_2 => nx s_2) it2 s) (fun s => W__law_take (.int 7) (fun shape => eqW shape (.int 0) fun t4 => boolW t4 fun b1 => iteW b1 (tupW s fun t5 => rt t5) (eqW shape (.int 1) fun t6 => boolW t6 fun b2 => iteW b2 (lcW s (fun pair Y N => orW (fun k1 => seqW pair fun l2 => ixW l2 (.int 1) fun t7 => seqW pair fun l3 => ixW l3 (.int 0) fun t8 => addW t8 (.int 1) fun t9 => eqW t7 t9 fun t10 => boolW t10 fun b3 => k1 b3) (fun k2 => subW n (.int 1) fun t11 => dispT [(.int 0), t11] fun t12 => eqW pair t12 fun t13 => boolW t13 fun b4 => k2 b4) fun b5 => iteW b5 (Y pair) N) fun l4 => tupW l4 fun t14 => rt t14) (eqW shape (.int 2) fun t15 => boolW t15 fun b6 => iteW b6 (W__law_take n (fun middle => lcW s (fun pair2 Y2 N2 => seqW pair2 fun l5 => inW middle l5 fun t17 => boolW t17 fun b7 => iteW b7 (Y2 pair2) N2) fun l6 => tupW l6 fun t18 => rt t18) er) (joinW (fun k3 => eqW shape (.int 3) fun t19 => boolW t19 fun b8 => iteW b8 (rngW n fun it5 => lcMW it5 (fun k4 Y3 => W__law_take (.int 2) (fun t20 => Y3 t20) noX) fun l7 => fzW l7 fun side => lcW s (fun pair3 Y4 N4 => seqW side fun l8 => seqW pair3 fun l9 => ixW l9 (.int 0) fun t22 => ixW l8 t22 fun t23 => seqW side fun l10 => seqW pair3 fun l11 => ixW l11 (.int 1) fun t24 => ixW l10 t24 fun t25 => eqW t23 t25 fun t26 => boolW t26 fun b9 => iteW b9 (Y4 pair3) N4) fun pairs4 => k3 pairs4) (k3 s)) fun pairs3 => W__law_take (.int 3) (fun t27 => addW (.int 2) t27 fun rare => lcW pairs3 (fun pair4 Y5 N5 => W__law_take rare (fun t29 => eqW t29 (.int 0) fun t30 => boolW t30 fun b10 => iteW b10 (Y5 pair4) N5) noX) fun l13 => tupW l13 fun t31 => rt t31) er)))) er) it1 pairs
theorem P__law_ties (vs : List V) (H : Hp) (Q : VK) (E : XK) (h : spP A Pl (vl1 W__law_ties) vs H Q E) : t__law_ties K w (spP A Pl (vl1 W__law_take)) E { nx := fun _ H' => Q .non H', rt := Q } (L2.start N__law_ties vs) H :=
  spP_body (N := N__law_ties) (t := fun E => t__law_ties K w (spP A Pl (vl1 W__law_take)) E) h fun C hF ds rt er B F0 D hW hr hx hn => by
    obtain ⟨n, rfl, h⟩ := vl1_inv hW
    unfold W__law_ties at h
    show At C B F0 [.pool, .dat n, .no, .no, .no, .no, .no, .no, .no, .no, .no] (t__law_ties K w (spP A Pl (vl1 W__law_take)) E D)
    refine aw_seq ?_
    refine aw_asgN (Γ' := fun pairs => [.pool, .dat n, .own pairs, .no, .no, .no, .no, .no, .no, .no, .no]) (fun _ => rfl) (nw_lst aw_nil) (RaiseW.tt0 hx) h (fun pairs h => ?_)
    refine aw_seq ?_
    refine aw_for (σT := List PyData) (vs := [3]) (fun s => [.pool, .dat n, .own s, .no, .no, .no, .no, .no, .no, .no, .no]) (.keep (.keep (.keep (.keep (.keep (.keep (.keep (.keep (.keep (.keep (.keep .nil))))))))))) (fw_rng1 (ew_var rfl)) (fun F0 D => RetOk C B F0 D rt) (rok_chain hr) hx h (fun F0 i s nx bk D hr hx hn hc hb h => ?_) (fun s h => ?_)
    · refine ⟨[.pool, .dat n, .own s, .dat i, .no, .no, .no, .no, .no, .no, .no], tg_name (by decide), ?_⟩
      refine aw_for (σT := List PyData) (vs := [4]) (fun s_2 => [.pool, .dat n, .own s_2, .dat i, .no, .no, .no, .no, .no, .no, .no]) (.keep (.keep (.keep (.keep (.keep (.keep (.keep (.keep (.keep (.keep (.keep .nil))))))))))) (fw_rng2 (ew_op ov_add (ew_var rfl) ew_int) (ew_var rfl)) (fun F0 D => RetOk C B F0 D rt) (rok_chain hr) hx h (fun F0 j s_2 nx bk D hr hx hn hc hb h => ?_) (fun s_2 h => ?_)
      · refine ⟨[.pool, .dat n, .own s_2, .dat i, .dat j, .no, .no, .no, .no, .no, .no], tg_name (by decide), ?_⟩
        refine aw_append (Γ' := fun pairs2 => [.pool, .dat n, .own pairs2, .dat i, .dat j, .no, .no, .no, .no, .no, .no]) rfl (fun _ => rfl) (ew_tup (aw_cons (ew_var rfl) (aw_cons (ew_var rfl) aw_nil))) (RaiseW.tt0 hx) h (fun pairs2 h => ?_)
        exact at_wk (.keep (.keep (.keep (.keep (.drop (.keep (.keep (.keep (.keep (.keep (.keep .nil))))))))))) (hn _ h)
      · exact at_wk (.keep (.keep (.keep (.drop (.keep (.keep (.keep (.keep (.keep (.keep (.keep .nil))))))))))) (hn _ h)
    · refine aw_seq ?_
      refine aw_asg (Γ' := fun shape => [.pool, .dat n, .own s, .no, .no, .dat shape, .no, .no, .no, .no, .no]) (fun _ => rfl) (ew_callP hF rfl (aw_cons ew_int aw_nil)) (RaiseW.tt0 hx) h (fun shape h => ?_)
      refine aw_seq ?_
      refine aw_if (tw_test (ew_op ov_eq (ew_var rfl) ew_int)) (RaiseW.tt0 hx) h (fun h => ?_) (fun h => ?_)
      · exact aw_ret hr (ew_tupleL (lw_own rfl)) (RaiseW.tt0 hx) h
      · refine aw_next ?_
        refine aw_seq ?_
        refine aw_if (tw_test (ew_op ov_eq (ew_var rfl) ew_int)) (RaiseW.tt0 hx) h (fun h => ?_) (fun h => ?_)
        · exact aw_ret hr (ew_tupleL (Nw.ls (nw_lc (iw_seq (sw_own rfl)) (fun x Y N h => ⟨_, _, _, tg_name (by decide), (tw_or (tw_test (ew_op ov_eq (ew_ix (Ew.s (ew_var rfl)) ew_int) (ew_op ov_add (ew_ix (Ew.s (ew_var rfl)) ew_int) ew_int))) (tw_test (ew_op ov_eq (ew_var rfl) (ew_tup (aw_cons ew_int (aw_cons (ew_op ov_sub (ew_var rfl) ew_int) aw_nil)))))), (ew_var rfl), h⟩)))) (RaiseW.tt0 hx) h
        · refine aw_next ?_
          refine aw_seq ?_
          refine aw_if (tw_test (ew_op ov_eq (ew_var rfl) ew_int)) (RaiseW.tt0 hx) h (fun h => ?_) (fun h => ?_)
          · refine aw_seq ?_
            refine aw_asg (Γ' := fun middle => [.pool, .dat n, .own s, .no, .no, .dat shape, .dat middle, .no, .no, .no, .no]) (fun _ => rfl) (ew_callP hF rfl (aw_cons (ew_var rfl) aw_nil)) (RaiseW.tt0 hx) h (fun middle h => ?_)
            exact aw_ret hr (ew_tupleL (Nw.ls (nw_lc (iw_seq (sw_own rfl)) (fun x Y N h => ⟨_, _, _, tg_name (by decide), (tw_test (ew_in (ew_var rfl) (Ew.s (ew_var rfl)))), (ew_var rfl), h⟩)))) (RaiseW.tt0 hx) h
          · refine aw_next ?_
            refine aw_join (J := fun (k : List PyData → Prop) Z => ∀ pairs3, k pairs3 → At C B F0 [.pool, .dat n, .own pairs3, .no, .no, .dat shape, .no, .no, .no, .no, .no] Z) h (fun pairs3 h => ?_) (fun k' hk h => ?_)
            · refine aw_seq ?_
              refine aw_asg (Γ' := fun rare => [.pool, .dat n, .own pairs3, .no, .no, .dat shape, .no, .no, .dat rare, .no, .no]) (fun _ => rfl) (ew_op ov_add ew_int (ew_callP hF rfl (aw_cons ew_int aw_nil))) (RaiseW.tt0 hx) h (fun rare h => ?_)
              exact aw_ret hr (ew_tupleL (Nw.ls (nw_lc (iw_seq (sw_own rfl)) (fun x Y N h => ⟨_, _, _, tg_name (by decide), (tw_test (ew_op ov_eq (ew_callP hF rfl (aw_cons (ew_var rfl) aw_nil)) ew_int)), (ew_var rfl), h⟩)))) (RaiseW.tt0 hx) h
            · refine aw_if (tw_test (ew_op ov_eq (ew_var rfl) ew_int)) (RaiseW.tt0 hx) h (fun h => ?_) (fun h => ?_)
              · refine aw_seq ?_
                refine aw_asg (Γ' := fun side => [.pool, .dat n, .own s, .no, .no, .dat shape, .no, .dat side, .no, .no, .no]) (fun _ => rfl) (Nw.fz (nw_lcM (Fw.it (fw_rng1 (ew_var rfl))) (fun x Y h => ⟨_, _, tg_name (by decide), (ew_callP hF rfl (aw_cons ew_int aw_nil)), h⟩))) (RaiseW.tt0 hx) h (fun side h => ?_)
                refine aw_asgN (Γ' := fun pairs4 => [.pool, .dat n, .own pairs4, .no, .no, .dat shape, .no, .dat side, .no, .no, .no]) (fun _ => rfl) (nw_lc (iw_seq (sw_own rfl)) (fun x Y N h => ⟨_, _, _, tg_name (by decide), (tw_test (ew_op ov_eq (ew_ix (Ew.s (ew_var rfl)) (ew_ix (Ew.s (ew_var rfl)) ew_int)) (ew_ix (Ew.s (ew_var rfl)) (ew_ix (Ew.s (ew_var rfl)) ew_int)))), (ew_var rfl), h⟩)) (RaiseW.tt0 hx) h (fun pairs4 h => ?_)
                exact at_wk (.keep (.keep (.keep (.keep (.keep (.keep (.keep (.drop (.keep (.keep (.keep .nil))))))))))) (hk _ h)
              · refine aw_next ?_
                exact at_wk (.keep (.keep (.keep (.keep (.keep (.keep (.keep (.keep (.keep (.keep (.keep .nil))))))))))) (hk _ h)
abbrev N__law_bad_number : List Str := ["pool"]
def t__law_bad_number (K : PySem.W.Frag) (w : World) (sp__law_take : Sp) (E : XK) : TS :=
  (tRet (tOp (rIx K) (tTup (tCons (tC (.int 1)) (tCons (tC (.int 7)) (tCons (tC (.int 0)) (tCons (tC (.bl true)) (tCons (tC .non) (tCons (tC (.str (PySem.Str.ofString "3"))) (tCons (tTup (tCons (tC (.int 3)) tNil)) (tCons (tOp rSubI (tC (.int 0)) (tC (.int 1))) (tCons (tC (.int 100000000000000000003)) tNil)))))))))) (tCall sp__law_take [] E (tCons (tVar 0) (tCons (tC (.int 9)) tNil)))))
@[irreducible] def W__law_bad_number (rt : PyData → Prop) (er : XP) : Prop :=
  dispT [(.int 3)] fun t1 => subW (.int 0) (.int 1) fun t2 => dispT [(.int 1), (.int 7), (.int 0), (.bool true), .none, (.str (PySem.Str.ofString "3")), t1, t2, (.int 100000000000000000003)] fun t3 => seqW t3 fun l1 => W__law_take (.int 9) (fun t4 => ixW l1 t4 fun t5 => rt t5) er
theorem P__law_bad_number (vs : List V) (H : Hp) (Q : VK) (E : XK) (h : spP A Pl (vl0 W__law_bad_number) vs H Q E) : t__law_bad_number K w (spP A Pl (vl1 W__law_take)) E { nx := fun _ H' => Q .non H', rt := Q } (L2.start N__law_bad_number vs) H :=
  spP_body (N := N__law_bad_number) (t := fun E => t__law_bad_number K w (spP A Pl (vl1 W__law_take)) E) h fun C hF ds rt er B F0 D hW hr hx hn => by
    obtain ⟨rfl, h⟩ := vl0_inv hW
    unfold W__law_bad_number at h
    show At C B F0 [.pool] (t__law_bad_number K w (spP A Pl (vl1 W__law_take)) E D)
    exact aw_ret hr (ew_ix (Ew.s (ew_tup (aw_cons ew_int (aw_cons ew_int (aw_cons ew_int (aw_cons ew_bl (aw_cons ew_non (aw_cons ew_str (aw_cons (ew_tup (aw_cons ew_int aw_nil)) (aw_cons (ew_op ov_sub ew_int ew_int) (aw_cons ew_int aw_nil))))))))))) (ew_callP hF rfl (aw_cons ew_int aw_nil))) (RaiseW.tt0 hx) h
abbrev N__law_bad_pair : List Str := ["pool", "n", "one", "other", "kind"]
def t__law_bad_pair (K : PySem.W.Frag) (w : World) (sp__law_take : Sp) (E : XK) : TS :=
  (tSeq (tAsg (tCall sp__law_take [] E (tCons (tVar 0) (tCons (tC (.int 12)) tNil))) (gName 4))
    (tSeq (tIfS (tTest (tOp rLtI (tVar 4) (tC (.int 4)))) (tRet (tOp (rIx K) (tTup (tCons (tTup (tCons (tVar 3) (tCons (tVar 2) tNil))) (tCons (tTup (tCons (tVar 2) (tCons (tVar 2) tNil))) (tCons (tTup (tCons (tVar 2) (tCons (tVar 1) tNil))) (tCons (tTup (tCons (tOp rSubI (tC (.int 0)) (tC (.int 1))) (tCons (tVar 3) tNil))) tNil))))) (tVar 4))) tNext)
    (tSeq (tIfS (tTest (tOp rLtI (tVar 4) (tC (.int 8)))) (tRet (tOp (rIx K) (tTup (tCons (tTup (tCons (tVar 2) (tCons (tVar 3) (tCons (tVar 3) tNil)))) (tCons (tTup (tCons (tVar 2) tNil)) (tCons (tLst (tCons (tVar 2) (tCons (tVar 3) tNil))) (tCons (tTup (tCons (tC (.bl false)) (tCons (tVar 3) tNil))) tNil))))) (tOp rSubI (tVar 4) (tC (.int 4))))) tNext)
    (tRet (tOp (rIx K) (tTup (tCons (tC .non) (tCons (tC (.str (PySem.Str.ofString "01"))) (tCons (tTup (tCons (tVar 2) (tCons (tCB rStrI (tCons (tVar 3) tNil)) tNil))) (tCons (tTup (tCons (tVar 2) (tCons (tC (.int 100000000000000000000)) tNil))) tNil))))) (tOp rSubI (tVar 4) (tC (.int 8))))))))
@[irreducible] def W__law_bad_pair (n : PyData) (one : PyData) (other : PyData) (rt : PyData → Prop) (er : XP) : Prop :=
  W__law_take (.int 12) (fun kind => ltW kind (.int 4) fun t2 => boolW t2 fun b1 => iteW b1 (dispT [other, one] fun t3 => dispT [one, one] fun t4 => dispT [one, n] fun t5 => subW (.int 0) (.int 1) fun t6 => dispT [t6, other] fun t7 => dispT [t3, t4, t5, t7] fun t8 => seqW t8 fun l1 => ixW l1 kind fun t9 => rt t9) (ltW kind (.int 8) fun t10 => boolW t10 fun b2 => iteW b2 (dispT [one, other, other] fun t11 => dispT [one] fun t12 => dispL [one, other] fun l2 => fzW l2 fun t13 => dispT [(.bool false), other] fun t14 => dispT [t11, t12, t13, t14] fun t15 => seqW t15 fun l3 => subW kind (.int 4) fun t16 => ixW l3 t16 fun t17 => rt t17) (strW other fun t18 => dispT [one, t18] fun t19 => dispT [one, (.int 100000000000000000000)] fun t20 => dispT [.none, (.str (PySem.Str.ofString "01")), t19, t20] fun t21 => seqW t21 fun l4 => subW kind (.int 8) fun t22 => ixW l4 t22 fun t23 => rt t23))) er
theorem P__law_bad_pair (vs : List V) (H : Hp) (Q : VK) (E : XK) (h : spP A Pl (vl3 W__law_bad_pair) vs H Q E) : t__law_bad_pair K w (spP A Pl (vl1 W__law_take)) E { nx := fun _ H' => Q .non H', rt := Q } (L2.start N__law_bad_pair vs) H :=
  spP_body (N := N__law_bad_pair) (t := fun E => t__law_bad_pair K w (spP A Pl (vl1 W__law_take)) E) h fun C hF ds rt er B F0 D hW hr hx hn => by
    obtain ⟨n, one, other, rfl, h⟩ := vl3_inv hW
    unfold W__law_bad_pair at h
    show At C B F0 [.pool, .dat n, .dat one, .dat other, .no] (t__law_bad_pair K w (spP A Pl (vl1 W__law_take)) E D)
    refine aw_seq ?_
    refine aw_asg (Γ' := fun kind => [.pool, .dat n, .dat one, .dat other, .dat kind]) (fun _ => rfl) (ew_callP hF rfl (aw_cons ew_int aw_nil)) (RaiseW.tt0 hx) h (fun kind h => ?_)
    refine aw_seq ?_
    refine aw_if (tw_test (ew_op ov_lt (ew_var rfl) ew_int)) (RaiseW.tt0 hx) h (fun h => ?_) (fun h => ?_)
    · exact aw_ret hr (ew_ix (Ew.s (ew_tup (aw_cons (ew_tup (aw_cons (ew_var rfl) (aw_cons (ew_var rfl) aw_nil))) (aw_cons (ew_tup (aw_cons (ew_var rfl) (aw_cons (ew_var rfl) aw_nil))) (aw_cons (ew_tup (aw_cons (ew_var rfl) (aw_cons (ew_var rfl) aw_nil))) (aw_cons (ew_tup (aw_cons (ew_op ov_sub ew_int ew_int) (aw_cons (ew_var rfl) aw_nil))) aw_nil)))))) (ew_var rfl)) (RaiseW.tt0 hx) h
    · refine aw_next ?_
      refine aw_seq ?_
      refine aw_if (tw_test (ew_op ov_lt (ew_var rfl) ew_int)) (RaiseW.tt0 hx) h (fun h => ?_) (fun h => ?_)
      · exact aw_ret hr (ew_ix (Ew.s (ew_tup (aw_cons (ew_tup (aw_cons (ew_var rfl) (aw_cons (ew_var rfl) (aw_cons (ew_var rfl) aw_nil)))) (aw_cons (ew_tup (aw_cons (ew_var rfl) aw_nil)) (aw_cons (Nw.fz (nw_lst (aw_cons (ew_var rfl) (aw_cons (ew_var rfl) aw_nil)))) (aw_cons (ew_tup (aw_cons ew_bl (aw_cons (ew_var rfl) aw_nil))) aw_nil)))))) (ew_op ov_sub (ew_var rfl) ew_int)) (RaiseW.tt0 hx) h
      · refine aw_next ?_
        exact aw_ret hr (ew_ix (Ew.s (ew_tup (aw_cons ew_non (aw_cons ew_str (aw_cons (ew_tup (aw_cons (ew_var rfl) (aw_cons (ew_cstr (ew_var rfl)) aw_nil))) (aw_cons (ew_tup (aw_cons (ew_var rfl) (aw_cons ew_int aw_nil))) aw_nil)))))) (ew_op ov_sub (ew_var rfl) ew_int)) (RaiseW.tt0 hx) h
abbrev N__law_bad_ties : List Str := ["pool", "n", "ties", "kind", "at", "bad"]
def t__law_bad_ties (K : PySem.W.Frag) (w : World) (sp__law_bad_pair : Sp) (sp__law_take : Sp) (E : XK) : TS :=
  (tSeq (tAsg (tCall sp__law_take [] E (tCons (tVar 0) (tCons (tC (.int 12)) tNil))) (gName 3))
    (tSeq (tIfS (tTest (tOp (rEqA K) (tVar 3) (tC (.int 0)))) (tRet (tCB (rListA K) (tCons (tVar 2) tNil))) tNext)
    (tSeq (tIfS (tTest (tOp (rEqA K) (tVar 3) (tC (.int 1)))) (tRet (tC .non)) tNext)
    (tSeq (tIfS (tTest (tOp (rEqA K) (tVar 3) (tC (.int 2)))) (tRet (tC (.str (PySem.Str.ofString "")))) tNext)
    (tSeq (tIfS (tTest (tOp (rEqA K) (tCB (rLenA K) (tCons (tVar 2) tNil)) (tC (.int 0)))) (tRet (tTup (tCons (tCall sp__law_bad_pair [] E (tCons (tVar 0) (tCons (tVar 1) (tCons (tC (.int 0)) (tCons (tC (.int 1)) tNil))))) tNil))) tNext)
    (tSeq (tAsg (tCall sp__law_take [] E (tCons (tVar 0) (tCons (tCB (rLenA K) (tCons (tVar 2) tNil)) tNil))) (gName 4))
    (tSeq (tIfS (tTest (tOp rLtI (tVar 3) (tC (.int 5)))) (tRet (tOp (rAddA K) (tOp (rAddA K) (tSl (rSlB K) (tVar 2) tNoPart (tPart (tVar 4))) (tTup (tCons (tOp (rIx K) (tVar 2) (tVar 4)) tNil))) (tSl (rSlB K) (tVar 2) (tPart (tVar 4)) tNoPart))) tNext)
    (tSeq (tIfS (tAnd (tTest (tOp rLtI (tVar 3) (tC (.int 7)))) (tTest (tOp rGtI (tCB (rLenA K) (tCons (tVar 2) tNil)) (tC (.int 1))))) (tSeq (tAsg (tCall sp__law_take [] E (tCons (tVar 0) (tCons (tOp rSubI (tCB (rLenA K) (tCons (tVar 2) tNil)) (tC (.int 1))) tNil))) (gName 4))
    (tRet (tOp (rAddA K) (tOp (rAddA K) (tSl (rSlB K) (tVar 2) tNoPart (tPart (tVar 4))) (tTup (tCons (tOp (rIx K) (tVar 2) (tOp (rAddA K) (tVar 4) (tC (.int 1)))) (tCons (tOp (rIx K) (tVar 2) (tVar 4)) tNil)))) (tSl (rSlB K) (tVar 2) (tPart (tOp (rAddA K) (tVar 4) (tC (.int 2)))) tNoPart)))) tNext)
    (tSeq (tAsg (tCall sp__law_bad_pair [] E (tCons (tVar 0) (tCons (tVar 1) (tCons (tOp (rIx K) (tOp (rIx K) (tVar 2) (tVar 4)) (tC (.int 0))) (tCons (tOp (rIx K) (tOp (rIx K) (tVar 2) (tVar 4)) (tC (.int 1))) tNil))))) (gName 5))
    (tRet (tOp (rAddA K) (tOp (rAddA K) (tSl (rSlB K) (tVar 2) tNoPart (tPart (tVar 4))) (tTup (tCons (tVar 5) tNil))) (tSl (rSlB K) (tVar 2) (tPart (tOp (rAddA K) (tVar 4) (tC (.int 1)))) tNoPart))))))))))))
@[irreducible] def W__law_bad_ties (n : PyData) (ties : PyData) (rt : PyData → Prop) (er : XP) : Prop :=
  W__law_take (.int 12) (fun kind => eqW kind (.int 0) fun t2 => boolW t2 fun b1 => iteW b1 (seqW ties fun l1 => fzW l1 fun t3 => rt t3) (eqW kind (.int 1) fun t4 => boolW t4 fun b2 => iteW b2 (rt .none) (eqW kind (.int 2) fun t5 => boolW t5 fun b3 => iteW b3 (rt (.str (PySem.Str.ofString ""))) (seqW ties fun l2 => lenW l2 fun t6 => eqW t6 (.int 0) fun t7 => boolW t7 fun b4 => iteW b4 (W__law_bad_pair n (.int 0) (.int 1) (fun t8 => dispT [t8] fun t9 => rt t9) er) (seqW ties fun l3 => lenW l3 fun t11 => W__law_take t11 (fun at_ => ltW kind (.int 5) fun t12 => boolW t12 fun b5 => iteW b5 (intW at_ fun i => slDW ties none (some i) fun t13 => seqW ties fun l4 => ixW l4 at_ fun t14 => dispT [t14] fun t15 => addW t13 t15 fun t16 => intW at_ fun i2 => slDW ties (some i2) none fun t17 => addW t16 t17 fun t18 => rt t18) (andW (fun k1 => ltW kind (.int 7) fun t19 => boolW t19 fun b6 => k1 b6) (fun k2 => seqW ties fun l5 => lenW l5 fun t20 => gtW t20 (.int 1) fun t21 => boolW t21 fun b7 => k2 b7) fun b8 => iteW b8 (seqW ties fun l6 => lenW l6 fun t23 => subW t23 (.int 1) fun t24 => W__law_take t24 (fun at_2 => intW at_2 fun i3 => slDW ties none (some i3) fun t25 => seqW ties fun l7 => addW at_2 (.int 1) fun t26 => ixW l7 t26 fun t27 => seqW ties fun l8 => ixW l8 at_2 fun t28 => dispT [t27, t28] fun t29 => addW t25 t29 fun t30 => addW at_2 (.int 2) fun t31 => intW t31 fun i4 => slDW ties (some i4) none fun t32 => addW t30 t32 fun t33 => rt t33) er) (seqW ties fun l9 => ixW l9 at_ fun t35 => seqW t35 fun l10 => ixW l10 (.int 0) fun t36 => seqW ties fun l11 => ixW l11 at_ fun t37 => seqW t37 fun l12 => ixW l12 (.int 1) fun t38 => W__law_bad_pair n t36 t38 (fun bad => intW at_ fun i5 => slDW ties none (some i5) fun t39 => dispT [bad] fun t40 => addW t39 t40 fun t41 => addW at_ (.int 1) fun t42 => intW t42 fun i6 => slDW ties (some i6) none fun t43 => addW t41 t43 fun t44 => rt t44) er))) er))))) er
theorem P__law_bad_ties (vs : List V) (H : Hp) (Q : VK) (E : XK) (h : spP A Pl (vl2 W__law_bad_ties) vs H Q E) : t__law_bad_ties K w (spP A Pl (vl3 W__law_bad_pair)) (spP A Pl (vl1 W__law_take)) E { nx := fun _ H' => Q .non H', rt := Q } (L2.start N__law_bad_ties vs) H :=
  spP_body (N := N__law_bad_ties) (t := fun E => t__law_bad_ties K w (spP A Pl (vl3 W__law_bad_pair)) (spP A Pl (vl1 W__law_take)) E) h fun C hF ds rt er B F0 D hW hr hx hn => by
    obtain ⟨n, ties, rfl, h⟩ := vl2_inv hW
    unfold W__law_bad_ties at h
    show At C B F0 [.pool, .dat n, .dat ties, .no, .no, .no] (t__law_bad_ties K w (spP A Pl (vl3 W__law_bad_pair)) (spP A Pl (vl1 W__law_take)) E D)
    refine aw_seq ?_
    refine aw_asg (Γ' := fun kind => [.pool, .dat n, .dat ties, .dat kind, .no, .no]) (fun _ => rfl) (ew_callP hF rfl (aw_cons ew_int aw_nil)) (RaiseW.tt0 hx) h (fun kind h => ?_)
    refine aw_seq ?_
    refine aw_if (tw_test (ew_op ov_eq (ew_var rfl) ew_int)) (RaiseW.tt0 hx) h (fun h => ?_) (fun h => ?_)
    · exact aw_ret hr (Nw.fz (nw_list (Ew.s (ew_var rfl)))) (RaiseW.tt0 hx) h
    · refine aw_next ?_
      refine aw_seq ?_
      refine aw_if (tw_test (ew_op ov_eq (ew_var rfl) ew_int)) (RaiseW.tt0 hx) h (fun h => ?_) (fun h => ?_)
      · exact aw_ret hr ew_non (RaiseW.tt0 hx) h
      · refine aw_next ?_
        refine aw_seq ?_
        refine aw_if (tw_test (ew_op ov_eq (ew_var rfl) ew_int)) (RaiseW.tt0 hx) h (fun h => ?_) (fun h => ?_)
        · exact aw_ret hr ew_str (RaiseW.tt0 hx) h
        · refine aw_next ?_
          refine aw_seq ?_
          refine aw_if (tw_test (ew_op ov_eq (ew_len (Ew.s (ew_var rfl))) ew_int)) (RaiseW.tt0 hx) h (fun h => ?_) (fun h => ?_)
          · exact aw_ret hr (ew_tup (aw_cons (ew_callP hF rfl (aw_cons (ew_var rfl) (aw_cons ew_int (aw_cons ew_int aw_nil)))) aw_nil)) (RaiseW.tt0 hx) h
          · refine aw_next ?_
            refine aw_seq ?_
            refine aw_asg (Γ' := fun at_ => [.pool, .dat n, .dat ties, .dat kind, .dat at_, .no]) (fun _ => rfl) (ew_callP hF rfl (aw_cons (ew_len (Ew.s (ew_var rfl))) aw_nil)) (RaiseW.tt0 hx) h (fun at_ h => ?_)
            refine aw_seq ?_
            refine aw_if (tw_test (ew_op ov_lt (ew_var rfl) ew_int)) (RaiseW.tt0 hx) h (fun h => ?_) (fun h => ?_)
            · exact aw_ret hr (ew_op ov_add (ew_op ov_add (ew_sl (ew_var rfl) ow_none (ow_some (ew_var rfl))) (ew_tup (aw_cons (ew_ix (Ew.s (ew_var rfl)) (ew_var rfl)) aw_nil))) (ew_sl (ew_var rfl) (ow_some (ew_var rfl)) ow_none)) (RaiseW.tt0 hx) h
            · refine aw_next ?_
              refine aw_seq ?_
              refine aw_if (tw_and (tw_test (ew_op ov_lt (ew_var rfl) ew_int)) (tw_test (ew_op ov_gt (ew_len (Ew.s (ew_var rfl))) ew_int))) (RaiseW.tt0 hx) h (fun h => ?_) (fun h => ?_)
              · refine aw_seq ?_
                refine aw_asg (Γ' := fun at_2 => [.pool, .dat n, .dat ties, .dat kind, .dat at_2, .no]) (fun _ => rfl) (ew_callP hF rfl (aw_cons (ew_op ov_sub (ew_len (Ew.s (ew_var rfl))) ew_int) aw_nil)) (RaiseW.tt0 hx) h (fun at_2 h => ?_)
                exact aw_ret hr (ew_op ov_add (ew_op ov_add (ew_sl (ew_var rfl) ow_none (ow_some (ew_var rfl))) (ew_tup (aw_cons (ew_ix (Ew.s (ew_var rfl)) (ew_op ov_add (ew_var rfl) ew_int)) (aw_cons (ew_ix (Ew.s (ew_var rfl)) (ew_var rfl)) aw_nil)))) (ew_sl (ew_var rfl) (ow_some (ew_op ov_add (ew_var rfl) ew_int)) ow_none)) (RaiseW.tt0 hx) h
              · refine aw_next ?_
                refine aw_seq ?_
                refine aw_asg (Γ' := fun bad => [.pool, .dat n, .dat ties, .dat kind, .dat at_, .dat bad]) (fun _ => rfl) (ew_callP hF rfl (aw_cons (ew_var rfl) (aw_cons (ew_ix (Ew.s (ew_ix (Ew.s (ew_var rfl)) (ew_var rfl))) ew_int) (aw_cons (ew_ix (Ew.s (ew_ix (Ew.s (ew_var rfl)) (ew_var rfl))) ew_int) aw_nil)))) (RaiseW.tt0 hx) h (fun bad h => ?_)
                exact aw_ret hr (ew_op ov_add (ew_op ov_add (ew_sl (ew_var rfl) ow_none (ow_some (ew_var rfl))) (ew_tup (aw_cons (ew_var rfl) aw_nil))) (ew_sl (ew_var rfl) (ow_some (ew_op ov_add (ew_var rfl) ew_int)) ow_none)) (RaiseW.tt0 hx) h
abbrev N__law_bad_bits : List Str := ["pool", "bits", "kind", "wrong", "at", "spoilt", "later"]
def t__law_bad_bits (K : PySem.W.Frag) (w : World) (sp__law_take : Sp) (E : XK) : TS :=
  (tSeq (tAsg (tCall sp__law_take [] E (tCons (tVar 0) (tCons (tC (.int 16)) tNil))) (gName 2))
    (tSeq (tIfS (tTest (tOp (rEqA K) (tVar 2) (tC (.int 0)))) (tRet (tLst (tCons (tOp (rAddA K) (tVar 1) (tLst (tCons (tC (.int 0)) tNil))) (tCons (tC (.int 0)) tNil)))) tNext)
    (tSeq (tIfS (tOr (tTest (tOp (rEqA K) (tVar 2) (tC (.int 1)))) (tTest (tOp (rEqA K) (tCB (rLenA K) (tCons (tVar 1) tNil)) (tC (.int 0))))) (tRet (tLst (tCons (tThen (tOp (rAddA K) (tVar 1) (tLst (tCons (tC (.int 1)) (tCons (tC (.int 0)) tNil)))) (kTup K)) (tCons (tC (.int 0)) tNil)))) tNext)
    (tSeq (tIfS (tTest (tOp (rEqA K) (tVar 2) (tC (.int 2)))) (tRet (tLst (tCons (tSl (rSlB K) (tVar 1) tNoPart (tPart (tUn rNegI (tC (.int 1))))) (tCons (tC (.int 0)) tNil)))) tNext)
    (tSeq (tIfS (tTest (tOp (rEqA K) (tVar 2) (tC (.int 3)))) (tRet (tLst (tCons (tC .non) (tCons (tC (.int 0)) tNil)))) tNext)
    (tSeq (tIfS (tTest (tOp (rEqA K) (tVar 2) (tC (.int 4)))) (tRet (tLst (tCons (tOp rMulS (tC (.str (PySem.Str.ofString "0"))) (tCB (rLenA K) (tCons (tVar 1) tNil))) (tCons (tC (.int 0)) tNil)))) tNext)
    (tSeq (tAsg (tTup (tCons (tC (.int 2)) (tCons (tOp rSubI (tC (.int 0)) (tC (.int 1))) (tCons (tC (.bl true)) (tCons (tC (.bl false)) (tCons (tC .non) (tCons (tC (.str (PySem.Str.ofString "1"))) (tCons (tTup (tCons (tC (.int 0)) tNil)) (tCons (tC (.int 100000000000000000000)) tNil))))))))) (gName 3))
    (tSeq (tAsg (tCall sp__law_take [] E (tCons (tVar 0) (tCons (tCB (rLenA K) (tCons (tVar 1) tNil)) tNil))) (gName 4))
    (tSeq (tAsg (tCB (rListA K) (tCons (tVar 1) tNil)) (gName 5))
    (tSeq (tAsg (tOp (rIx K) (tVar 3) (tCall sp__law_take [] E (tCons (tVar 0) (tCons (tC (.int 8)) tNil)))) (gSub (tVar 5) (tVar 4) rSetL))
    (tSeq (tAsg (tOp (rAddA K) (tVar 4) (tCall sp__law_take [] E (tCons (tVar 0) (tCons (tOp rSubI (tCB (rLenA K) (tCons (tVar 1) tNil)) (tVar 4)) tNil)))) (gName 6))
    (tSeq (tIfS (tTest (tOp rGtI (tVar 6) (tVar 4))) (tAsg (tOp (rIx K) (tVar 3) (tCall sp__law_take [] E (tCons (tVar 0) (tCons (tC (.int 8)) tNil)))) (gSub (tVar 5) (tVar 6) rSetL)) tNext)
    (tSeq (tIfS (tTest (tOp (rEqA K) (tCall sp__law_take [] E (tCons (tVar 0) (tCons (tC (.int 2)) tNil))) (tC (.int 0)))) (tRet (tLst (tCons (tThen (tVar 5) (kTup K)) (tCons (tVar 4) tNil)))) tNext)
    (tRet (tLst (tCons (tVar 5) (tCons (tVar 4) tNil)))))))))))))))))
@[irreducible] def W__law_bad_bits (bits : PyData) (rt : PyData → Prop) (er : XP) : Prop :=
  W__law_take (.int 16) (fun kind => eqW kind (.int 0) fun t2 => boolW t2 fun b1 => iteW b1 (lstW bits fun l1 => dispL [(.int 0)] fun l2 => catW l1 l2 fun l3 => fzW l3 fun t3 => dispL [t3, (.int 0)] fun l4 => fzW l4 fun t4 => rt t4) (orW (fun k1 => eqW kind (.int 1) fun t5 => boolW t5 fun b2 => k1 b2) (fun k2 => seqW bits fun l5 => lenW l5 fun t6 => eqW t6 (.int 0) fun t7 => boolW t7 fun b3 => k2 b3) fun b4 => iteW b4 (lstW bits fun l6 => dispL [(.int 1), (.int 0)] fun l7 => catW l6 l7 fun l8 => tupW l8 fun t8 => dispL [t8, (.int 0)] fun l9 => fzW l9 fun t9 => rt t9) (eqW kind (.int 2) fun t10 => boolW t10 fun b5 => iteW b5 (negW (.int 1) fun t11 => intW t11 fun i => slDW bits none (some i) fun t12 => dispL [t12, (.int 0)] fun l10 => fzW l10 fun t13 => rt t13) (eqW kind (.int 3) fun t14 => boolW t14 fun b6 => iteW b6 (dispL [.none, (.int 0)] fun l11 => fzW l11 fun t15 => rt t15) (eqW kind (.int 4) fun t16 => boolW t16 fun b7 => iteW b7 (seqW bits fun l12 => lenW l12 fun t17 => mulSW (.str (PySem.Str.ofString "0")) t17 fun t18 => dispL [t18, (.int 0)] fun l13 => fzW l13 fun t19 => rt t19) (subW (.int 0) (.int 1) fun t20 => dispT [(.int 0)] fun t21 => dispT [(.int 2), t20, (.bool true), (.bool false), .none, (.str (PySem.Str.ofString "1")), t21, (.int 100000000000000000000)] fun wrong => seqW bits fun l14 => lenW l14 fun t24 => W__law_take t24 (fun at_ => seqW bits fun spoilt => seqW wrong fun l16 => W__law_take (.int 8) (fun t25 => ixW l16 t25 fun t26 => setW spoilt at_ t26 fun spoilt2 => seqW bits fun l17 => lenW l17 fun t28 => subW t28 at_ fun t29 => W__law_take t29 (fun t27 => addW at_ t27 fun later => joinW (fun k3 => gtW later at_ fun t31 => boolW t31 fun b8 => iteW b8 (seqW wrong fun l18 => W__law_take (.int 8) (fun t32 => ixW l18 t32 fun t33 => setW spoilt2 later t33 fun spoilt4 => k3 spoilt4) er) (k3 spoilt2)) fun spoilt3 => W__law_take (.int 2) (fun t34 => eqW t34 (.int 0) fun t35 => boolW t35 fun b9 => iteW b9 (tupW spoilt3 fun t36 => dispL [t36, at_] fun l19 => fzW l19 fun t37 => rt t37) (dispL [(.list spoilt3), at_] fun l20 => fzW l20 fun t38 => rt t38)) er) er) er) er)))))) er
theorem P__law_bad_bits (vs : List V) (H : Hp) (Q : VK) (E : XK) (h : spP A Pl (vl1 W__law_bad_bits) vs H Q E) : t__law_bad_bits K w (spP A Pl (vl1 W__law_take)) E { nx := fun _ H' => Q .non H', rt := Q } (L2.start N__law_bad_bits vs) H :=
  spP_body (N := N__law_bad_bits) (t := fun E => t__law_bad_bits K w (spP A Pl (vl1 W__law_take)) E) h fun C hF ds rt er B F0 D hW hr hx hn => by
    obtain ⟨bits, rfl, h⟩ := vl1_inv hW
    unfold W__law_bad_bits at h
    show At C B F0 [.pool, .dat bits, .no, .no, .no, .no, .no] (t__law_bad_bits K w (spP A Pl (vl1 W__law_take)) E D)
    refine aw_seq ?_
    refine aw_asg (Γ' := fun kind => [.pool, .dat bits, .dat kind, .no, .no, .no, .no]) (fun _ => rfl) (ew_callP hF rfl (aw_cons ew_int aw_nil)) (RaiseW.tt0 hx) h (fun kind h => ?_)
    refine aw_seq ?_
    refine aw_if (tw_test (ew_op ov_eq (ew_var rfl) ew_int)) (RaiseW.tt0 hx) h (fun h => ?_) (fun h => ?_)
    · exact aw_ret hr (Nw.fz (nw_lst (aw_cons (Nw.fz (nw_cat (Ew.ls (ew_var rfl)) (Nw.ls (nw_lst (aw_cons ew_int aw_nil))))) (aw_cons ew_int aw_nil)))) (RaiseW.tt0 hx) h
    · refine aw_next ?_
      refine aw_seq ?_
      refine aw_if (tw_or (tw_test (ew_op ov_eq (ew_var rfl) ew_int)) (tw_test (ew_op ov_eq (ew_len (Ew.s (ew_var rfl))) ew_int))) (RaiseW.tt0 hx) h (fun h => ?_) (fun h => ?_)
      · exact aw_ret hr (Nw.fz (nw_lst (aw_cons (ew_tupleL (Nw.ls (nw_cat (Ew.ls (ew_var rfl)) (Nw.ls (nw_lst (aw_cons ew_int (aw_cons ew_int aw_nil))))))) (aw_cons ew_int aw_nil)))) (RaiseW.tt0 hx) h
      · refine aw_next ?_
        refine aw_seq ?_
        refine aw_if (tw_test (ew_op ov_eq (ew_var rfl) ew_int)) (RaiseW.tt0 hx) h (fun h => ?_) (fun h => ?_)
        · exact aw_ret hr (Nw.fz (nw_lst (aw_cons (ew_sl (ew_var rfl) ow_none (ow_some (ew_neg ew_int))) (aw_cons ew_int aw_nil)))) (RaiseW.tt0 hx) h
        · refine aw_next ?_
          refine aw_seq ?_
          refine aw_if (tw_test (ew_op ov_eq (ew_var rfl) ew_int)) (RaiseW.tt0 hx) h (fun h => ?_) (fun h => ?_)
          · exact aw_ret hr (Nw.fz (nw_lst (aw_cons ew_non (aw_cons ew_int aw_nil)))) (RaiseW.tt0 hx) h
          · refine aw_next ?_
            refine aw_seq ?_
            refine aw_if (tw_test (ew_op ov_eq (ew_var rfl) ew_int)) (RaiseW.tt0 hx) h (fun h => ?_) (fun h => ?_)
            · exact aw_ret hr (Nw.fz (nw_lst (aw_cons (ew_op ov_mulS ew_str (ew_len (Ew.s (ew_var rfl)))) (aw_cons ew_int aw_nil)))) (RaiseW.tt0 hx) h
            · refine aw_next ?_
              refine aw_seq ?_
              refine aw_asg (Γ' := fun wrong => [.pool, .dat bits, .dat kind, .dat wrong, .no, .no, .no]) (fun _ => rfl) (ew_tup (aw_cons ew_int (aw_cons (ew_op ov_sub ew_int ew_int) (aw_cons ew_bl (aw_cons ew_bl (aw_cons ew_non (aw_cons ew_str (aw_cons (ew_tup (aw_cons ew_int aw_nil)) (aw_cons ew_int aw_nil))))))))) (RaiseW.tt0 hx) h (fun wrong h => ?_)
              refine aw_seq ?_
              refine aw_asg (Γ' := fun at_ => [.pool, .dat bits, .dat kind, .dat wrong, .dat at_, .no, .no]) (fun _ => rfl) (ew_callP hF rfl (aw_cons (ew_len (Ew.s (ew_var rfl))) aw_nil)) (RaiseW.tt0 hx) h (fun at_ h => ?_)
              refine aw_seq ?_
              refine aw_asgN (Γ' := fun spoilt => [.pool, .dat bits, .dat kind, .dat wrong, .dat at_, .own spoilt, .no]) (fun _ => rfl) (nw_list (Ew.s (ew_var rfl))) (RaiseW.tt0 hx) h (fun spoilt h => ?_)
              refine aw_seq ?_
              refine aw_set (Γ' := fun spoilt2 => [.pool, .dat bits, .dat kind, .dat wrong, .dat at_, .own spoilt2, .no]) rfl (fun _ => rfl) (ew_ix (Ew.s (ew_var rfl)) (ew_callP hF rfl (aw_cons ew_int aw_nil))) (ew_var rfl) (RaiseW.tt0 hx) h (fun spoilt2 h => ?_)
              refine aw_seq ?_
              refine aw_asg (Γ' := fun later => [.pool, .dat bits, .dat kind, .dat wrong, .dat at_, .own spoilt2, .dat later]) (fun _ => rfl) (ew_op ov_add (ew_var rfl) (ew_callP hF rfl (aw_cons (ew_op ov_sub (ew_len (Ew.s (ew_var rfl))) (ew_var rfl)) aw_nil))) (RaiseW.tt0 hx) h (fun later h => ?_)
              refine aw_join (J := fun (k : List PyData → Prop) Z => ∀ spoilt3, k spoilt3 → At C B F0 [.pool, .dat bits, .dat kind, .dat wrong, .dat at_, .own spoilt3, .dat later] Z) h (fun spoilt3 h => ?_) (fun k' hk h => ?_)
              · refine aw_seq ?_
                refine aw_if (tw_test (ew_op ov_eq (ew_callP hF rfl (aw_cons ew_int aw_nil)) ew_int)) (RaiseW.tt0 hx) h (fun h => ?_) (fun h => ?_)
                · exact aw_ret hr (Nw.fz (nw_lst (aw_cons (ew_tupleL (lw_own rfl)) (aw_cons (ew_var rfl) aw_nil)))) (RaiseW.tt0 hx) h
                · refine aw_next ?_
                  refine at_frz 5 rfl ?_
                  show At C B F0 [.pool, .dat bits, .dat kind, .dat wrong, .dat at_, .dat (.list spoilt3), .dat later] _
                  exact aw_ret hr (Nw.fz (nw_lst (aw_cons (ew_var rfl) (aw_cons (ew_var rfl) aw_nil)))) (RaiseW.tt0 hx) h
              · refine aw_if (tw_test (ew_op ov_gt (ew_var rfl) (ew_var rfl))) (RaiseW.tt0 hx) h (fun h => ?_) (fun h => ?_)
                · refine aw_set (Γ' := fun spoilt4 => [.pool, .dat bits, .dat kind, .dat wrong, .dat at_, .own spoilt4, .dat later]) rfl (fun _ => rfl) (ew_ix (Ew.s (ew_var rfl)) (ew_callP hF rfl (aw_cons ew_int aw_nil))) (ew_var rfl) (RaiseW.tt0 hx) h (fun spoilt4 h => ?_)
                  exact at_wk (.keep (.keep (.keep (.keep (.keep (.keep (.keep .nil))))))) (hk _ h)
                · refine aw_next ?_
                  exact at_wk (.keep (.keep (.keep (.keep (.keep (.keep (.keep .nil))))))) (hk _ h)
end Eh

namespace Eh
open PySem PySem.Spec PyProof.Rows L2
/-! ### talk at tables: plain laws of what k95, k96, k97 share -/
abbrev prD (p : Nat × Nat) : PyData := .tuple [iD p.1, iD p.2]
abbrev tiesD (ts : List (Nat × Nat)) : PyData := .tuple (ts.map prD)
abbrev bitL (bs : List Nat) : PyData := .list (bs.map iD)
/-- a row of m bits, as list or tuple -/
def Bits (m : Nat) (bs : List Nat) : Prop := bs.length = m ∧ ∀ b ∈ bs, b < 2
def BitsD (bs : List Nat) (d : PyData) : Prop := isSq d = true ∧ lsq d = bs.map iD
theorem BitsD.seq {bs : List Nat} {d : PyData} (h : BitsD bs d) {k : List PyData → Prop} (hk : k (bs.map iD)) : seqW d k := seq_ok h.1 (by rw [h.2]; exact hk)
theorem bitsD_l {bs : List Nat} : BitsD bs (.list (bs.map iD)) := ⟨rfl, rfl⟩
theorem bitsD_t {bs : List Nat} : BitsD bs (.tuple (bs.map iD)) := ⟨rfl, rfl⟩
def ltP (p q : Nat × Nat) : Bool := HT.lexLt [(p.1 : Int), (p.2 : Int)] [(q.1 : Int), (q.2 : Int)]
def prB (m : Int) (d : PyData) : Bool := match d with | .tuple [.int i, .int j] => decide (0 ≤ i) && decide (i ≤ m) && (decide (0 ≤ j) && decide (j ≤ m) && decide (i < j)) | _ => false
structure Ties (n : Nat) (ts : List (Nat × Nat)) : Prop where
  ok : ∀ p ∈ ts, p.1 < p.2 ∧ p.2 < n
  asc : ts.Pairwise fun p q => ltP p q = true
  len : ts.length ≤ 15
section
variable {rt : PyData → Prop} {rn : List PyData → Prop} {er : XP} {d e : PyData} {n m : Nat} {bs : List Nat} {ts : List (Nat × Nat)}
/-! rows of numbers -/
theorem w_check_numbers {mo : Int} (hz : (lsq d).length ≤ 100000) (h1 : isSq d = true → (lsq d).length = m → (∀ x ∈ lsq d, ftB x 0 mo = true) → rt .none)
    (h2 : (isSq d = true → (lsq d).length ≠ m) → er "BadRow" (some [("place", V.int 0)]))
    (h3 : isSq d = true → (lsq d).length = m → ∀ (at_ : Nat) x, (lsq d)[at_]? = some x → (∀ j y, j < at_ → (lsq d)[j]? = some y → ftB y 0 mo = true) → ftB x 0 mo = false → er "BadRow" (some [("place", V.int at_)])) :
    W_check_numbers d (iD m) (.int mo) rt er := by
  unfold W_check_numbers
  by_cases hs : isSq d = true
  · have hsq : ∀ {k : List PyData → Prop}, k (lsq d) → seqW d k := fun h => seq_ok hs h
    refine or_ok (!isSq d) (fun k h => h) (fun _ => ?_) fun e => by rw [hs] at e; cases e
    refine hsq ?_
    show neW (.int ((lsq d).length : Nat)) (.int (m : Nat)) _
    refine neN_ok ?_
    refine ite_ok (fun e => h2 fun _ => of_decide_eq_false (nt e)) fun e => ?_
    have hl := of_decide_eq_true (nf e)
    refine hsq ?_
    show forW _ _ (enumD (lsq d)) ()
    unfold enumD
    refine for_ok (fun p : PyData × Nat => .tuple [.int p.2, p.1]) (fun i _ => ∀ j y, j < i → (lsq d)[j]? = some y → ftB y 0 mo = true) (fun j y hj => absurd hj (Nat.not_lt_zero _)) ?_ ?_
    · rintro i ⟨x, j⟩ _ hx hi nx bk hn hb
      obtain ⟨hj, hx'⟩ : j = i ∧ (lsq d)[i]? = some x := by
        rw [List.getElem?_zipIdx] at hx
        cases e : (lsq d)[i]? with
        | none => rw [e] at hx; cases hx
        | some z => rw [e] at hx; cases hx; exact ⟨by omega, rfl⟩
      subst hj
      refine w_is_from_to ?_
      refine ite_ok (fun e => h3 hs hl j x hx' hi (nt e)) fun e => hn () fun k y hk hy => ?_
      rcases Nat.lt_or_eq_of_le (Nat.lt_succ_iff.mp hk) with hk | rfl
      · exact hi k y hk hy
      · rw [hx'] at hy; cases hy; exact nf e
    · intro _ hi
      rw [List.length_zipIdx] at hi
      refine h1 hs hl fun x hx => ?_
      obtain ⟨j, hj, e⟩ := List.getElem_of_mem hx
      exact hi j x hj (by rw [List.getElem?_eq_getElem hj, e])
  · have hs : isSq d = false := by cases e : isSq d with | true => exact absurd e hs | false => rfl
    refine or_ok (!isSq d) (fun k h => h) (fun e => by rw [hs] at e; cases e) fun _ => ?_
    exact h2 fun e => by rw [hs] at e; cases e
/-- what check_bits refuses at a place -/
def BadBits (m : Nat) (d : PyData) (p : Int) : Prop := ∀ (rt : PyData → Prop) (er : XP), er "BadRow" (some [("place", V.int p)]) → W_check_bits d (iD m) rt er
theorem w_check_bits (hd : BitsD bs d) (hb : Bits m bs) (hz : m ≤ 1000) (h : rt .none) : W_check_bits d (iD m) rt er := by
  unfold W_check_bits
  have all : ∀ x ∈ lsq d, ftB x 0 1 = true := fun x hx => by
    rw [hd.2] at hx
    obtain ⟨b, hb', rfl⟩ := List.mem_map.mp hx
    exact ftB_nat (by have := hb.2 b hb'; omega)
  have hl : (lsq d).length = m := by rw [hd.2, List.length_map, hb.1]
  refine w_check_numbers (by omega) (fun _ _ _ => h) (fun h2 => absurd hl (h2 hd.1)) fun _ _ i x hx _ hf => ?_
  rw [all x (List.mem_of_getElem? hx)] at hf; cases hf
theorem bad_shape (hz : (lsq d).length ≤ 100000) (h : isSq d = true → (lsq d).length ≠ m) : BadBits m d 0 := fun rt er he => by
  unfold W_check_bits
  exact w_check_numbers hz (fun h1 h2 _ => absurd h2 (h h1)) (fun _ => he) fun h1 h2 => absurd h2 (h h1)
theorem bad_place {i : Nat} {x : PyData} (hs : isSq d = true) (hl : (lsq d).length = m) (hz : m ≤ 1000) (hx : (lsq d)[i]? = some x) (hb : ∀ j y, j < i → (lsq d)[j]? = some y → ftB y 0 1 = true) (hf : ftB x 0 1 = false) : BadBits m d (i : Nat) := fun rt er he => by
  unfold W_check_bits
  refine w_check_numbers (by omega) (fun _ _ h => ?_) (fun h2 => absurd hl (h2 hs)) fun _ _ k y hy hk hfy => ?_
  · rw [h x (List.mem_of_getElem? hx)] at hf; cases hf
  · have : k = i := by
      rcases Nat.lt_trichotomy k i with h | h | h
      · rw [hb k y h hy] at hfy; cases hfy
      · exact h
      · rw [hk i x h hx] at hf; cases hf
    subst this; exact he
/-! ties -/
theorem prB_shape {m : Int} (h : prB m d = true) : ∃ i j : Int, d = .tuple [.int i, .int j] ∧ 0 ≤ i ∧ i ≤ m ∧ 0 ≤ j ∧ j ≤ m ∧ i < j := by
  unfold prB at h
  split at h
  · rename_i i j
    simp only [Bool.and_eq_true, decide_eq_true_eq] at h
    exact ⟨i, j, rfl, h.1.1, h.1.2, h.2.1.1, h.2.1.2, h.2.2⟩
  · cases h
theorem prB_ok {p : Nat × Nat} (h : p.1 < p.2 ∧ p.2 < n) : prB ((n : Int) - 1) (prD p) = true := by
  show (decide ((0 : Int) ≤ (p.1 : Int)) && decide ((p.1 : Int) ≤ (n : Int) - 1) && (decide ((0 : Int) ≤ (p.2 : Int)) && decide ((p.2 : Int) ≤ (n : Int) - 1) && decide ((p.1 : Int) < (p.2 : Int)))) = true
  simp only [Bool.and_eq_true, decide_eq_true_eq]
  omega
def pairsB (m : Int) (d : PyData) : Bool := match d with | .tuple xs => xs.all (prB m) | _ => false
def isPr (d : PyData) : Bool := match d with | .tuple [_, _] => true | _ => false
theorem w_are_pairs {m : Int} (hz : (lsq d).length ≤ 100000) (h : rt (.bool (pairsB (m - 1) d))) : W_are_pairs d (.int m) rt er := by
  unfold W_are_pairs
  cases d with
  | tuple xs =>
    have hz : xs.length ≤ 100000 := hz
    refine or_ok false (fun k h => h) (fun _ => ?_) (fun z => nomatch z)
    show lcMW xs _ _
    have e1 := lcM_ok (xs := xs) id (fun x => .bool (isPr x)) (body := fun pair Y => andVW (fun k1 => isTupW pair fun t2 => k1 t2) (fun k2 => seqW pair fun l2 => lenW l2 fun t3 => eqW t3 (.int 2) fun t4 => k2 t4) fun t5 => Y t5) 
      (k := fun l3 => allW l3 fun t6 => boolW t6 fun b2 => (fun b3 => iteW b3 (rt (.bool false)) (seqW (.tuple xs) fun l4 => lcMW l4 (fun x1 Y2 => un2W x1 fun i j => andVW (fun k7 => subW (.int m) (.int 1) fun t8 => W_is_from_to i (.int 0) t8 (fun t7 => k7 t7) noX) (fun k8 => andVW (fun k5 => subW (.int m) (.int 1) fun t10 => W_is_from_to j (.int 0) t10 (fun t9 => k5 t9) noX) (fun k6 => ltW i j fun t11 => k6 t11) fun t12 => k8 t12) fun t13 => Y2 t13) fun l5 => allW l5 fun t14 => rt t14)) (!b2)) hz (fun x hx Y hY => ?_) (all_ok ?_)
    · rw [List.map_id] at e1; exact e1
    · cases x with
      | tuple ys =>
        show eqW (.int (ys.length : Nat)) (.int ((2 : Nat) : Int)) _
        refine eqN_ok ?_
        match ys, hY with
        | [], hY => exact hY
        | [_], hY => exact hY
        | [_, _], hY => exact hY
        | _ :: _ :: _ :: ys, hY =>
          have : decide ((ys.length + 1 + 1 + 1) = 2) = false := decide_eq_false (by omega)
          show Y (.bool (decide ((ys.length + 1 + 1 + 1) = 2)))
          rw [this]; exact hY
      | _ => exact hY
    · show iteW (!xs.all isPr) _ _
      cases hp : xs.all isPr with
      | false =>
        refine iteT rfl ?_
        have : pairsB (m - 1) (.tuple xs) = false := by
          show xs.all (prB (m - 1)) = false
          cases e : xs.all (prB (m - 1)) with
          | false => rfl
          | true =>
            rw [List.all_eq_true] at e
            have : xs.all isPr = true := List.all_eq_true.mpr fun x hx => by
              obtain ⟨i, j, rfl, _⟩ := prB_shape (e x hx)
              rfl
            rw [this] at hp; cases hp
        rw [this] at h; exact h
      | true =>
        refine iteF rfl ?_
        rw [List.all_eq_true] at hp
        have e2 := lcM_ok (xs := xs) id (fun x => .bool (prB (m - 1) x)) (body := fun x1 Y2 => un2W x1 fun i j => andVW (fun k7 => subW (.int m) (.int 1) fun t8 => W_is_from_to i (.int 0) t8 (fun t7 => k7 t7) noX) (fun k8 => andVW (fun k5 => subW (.int m) (.int 1) fun t10 => W_is_from_to j (.int 0) t10 (fun t9 => k5 t9) noX) (fun k6 => ltW i j fun t11 => k6 t11) fun t12 => k8 t12) fun t13 => Y2 t13)
          (k := fun l5 => allW l5 fun t14 => rt t14) hz (fun x hx Y hY => ?_) (all_ok h)
        · rw [List.map_id] at e2; exact e2
        · have hx := hp x hx
          obtain ⟨i, j, rfl⟩ : ∃ i j, x = .tuple [i, j] := by
            unfold isPr at hx
            split at hx
            · exact ⟨_, _, rfl⟩
            · cases hx
          show W_is_from_to i (.int 0) (.int (m - 1)) _ _
          refine w_is_from_to ?_
          cases i with
          | int i =>
            refine ite_ok (fun ei => ?_) fun ei => ?_
            · show W_is_from_to j (.int 0) (.int (m - 1)) _ _
              refine w_is_from_to ?_
              cases j with
              | int j =>
                have ei : (decide ((0 : Int) ≤ i) && decide (i ≤ m - 1)) = true := ei
                have hY : Y (.bool ((decide ((0 : Int) ≤ i) && decide (i ≤ m - 1)) && ((decide ((0 : Int) ≤ j) && decide (j ≤ m - 1)) && decide (i < j)))) := hY
                rw [ei, Bool.true_and] at hY
                refine ite_ok (fun ej => ?_) fun ej => ?_
                · have ej : (decide ((0 : Int) ≤ j) && decide (j ≤ m - 1)) = true := ej
                  rw [ej, Bool.true_and] at hY; exact hY
                · have ej : (decide ((0 : Int) ≤ j) && decide (j ≤ m - 1)) = false := ej
                  rw [ej, Bool.false_and] at hY; exact hY
              | _ => exact hY
            · have ei : (decide ((0 : Int) ≤ i) && decide (i ≤ m - 1)) = false := ei
              cases j with
              | int j =>
                have hY : Y (.bool ((decide ((0 : Int) ≤ i) && decide (i ≤ m - 1)) && ((decide ((0 : Int) ≤ j) && decide (j ≤ m - 1)) && decide (i < j)))) := hY
                rw [ei, Bool.false_and] at hY; exact hY
              | _ => exact hY
          | _ => exact hY
  | _ => exact or_ok true (fun k h => h) (fun z => nomatch z) fun _ => h
def riseB (ts : List (Nat × Nat)) : Bool := (List.range (ts.length - 1)).all fun k => ltP (ts.getD k (0, 0)) (ts.getD (k + 1) (0, 0))
/-- pairs of people that may not rise -/
theorem w_check_edges (ho : pairsB ((n : Int) - 1) (tiesD ts) = true) (hz : ts.length ≤ 1000) (h1 : riseB ts = true → rt .none) (h2 : riseB ts = false → er "BadCalls" none) : W_check_edges (iD n) (tiesD ts) rt er := by
  unfold W_check_edges
  refine or_ok false (fun k h => w_are_pairs (by simp [lsq]; omega) (by rw [ho]; exact h)) (fun _ => ?_) (fun z => nomatch z)
  show rngW (.int (((ts.map prD).length : Nat) - 1)) _
  rw [List.length_map]
  refine rngS_ok (by omega) ?_
  rw [show ((ts.length : Int) - 1).toNat = ts.length - 1 by omega]
  refine lcM_ok iD (fun k => .bool (ltP (ts.getD k (0, 0)) (ts.getD (k + 1) (0, 0)))) (by simp; omega) (fun k hk Y hY => ?_) (all_ok ?_)
  · have hk := List.mem_range.mp hk
    refine ix_ok (n := k) (d := prD (ts.getD k (0, 0))) (by rw [List.getElem?_map, getD_some (d := (0, 0)) (by omega)]; rfl) ?_
    show ixW _ (.int ((k : Int) + 1)) _
    rw [show ((k : Int) + 1) = ((k + 1 : Nat) : Int) by omega]
    refine ix_ok (n := k + 1) (d := prD (ts.getD (k + 1) (0, 0))) (by rw [List.getElem?_map, getD_some (d := (0, 0)) (by omega)]; rfl) ?_
    exact ⟨[_, _], [_, _], rfl, rfl, hY⟩
  · show iteW (!riseB ts) _ _
    cases e : riseB ts with
    | true => exact h1 e
    | false => exact h2 e
def BadTies (n : Nat) (d : PyData) : Prop := ∀ (rt : PyData → Prop) (er : XP), er "BadCalls" none → W_check_edges (iD n) d rt er
theorem bad_pairs (hz : (lsq d).length ≤ 100000) (h : pairsB ((n : Int) - 1) d = false) : BadTies n d := fun rt er he => by
  unfold W_check_edges
  exact or_ok true (fun k hk => w_are_pairs hz (by rw [h]; exact hk)) (fun z => nomatch z) fun _ => he
theorem bad_rise (hk : ∀ p ∈ ts, p.1 < p.2 ∧ p.2 < n) (hz : ts.length ≤ 1000) {k : Nat} (h1 : k + 1 < ts.length) (h2 : ltP (ts.getD k (0, 0)) (ts.getD (k + 1) (0, 0)) = false) : BadTies n (tiesD ts) := fun rt er he => by
  refine w_check_edges ?_ hz (fun e => ?_) fun _ => he
  · show (ts.map prD).all (prB ((n : Int) - 1)) = true
    rw [List.all_map, List.all_eq_true]
    exact fun p hp => prB_ok (hk p hp)
  · have := List.all_eq_true.mp e k (List.mem_range.mpr (by omega))
    rw [h2] at this; cases this
theorem Ties.pairs (t : Ties n ts) : pairsB ((n : Int) - 1) (tiesD ts) = true := by
  show (ts.map prD).all (prB ((n : Int) - 1)) = true
  rw [List.all_map, List.all_eq_true]
  exact fun p hp => prB_ok (t.ok p hp)
theorem Ties.rise (t : Ties n ts) : riseB ts = true := List.all_eq_true.mpr fun k hk => by
  have hk := List.mem_range.mp hk
  have := List.pairwise_iff_getElem.mp t.asc k (k + 1) (by omega) (by omega) (by omega)
  have e1 := getD_some (xs := ts) (d := (0, 0)) (show k < ts.length by omega)
  have e2 := getD_some (xs := ts) (d := (0, 0)) (show k + 1 < ts.length by omega)
  rw [List.getElem?_eq_getElem (by omega)] at e1 e2
  rwa [Option.some.inj e1, Option.some.inj e2] at this
theorem w_edges (t : Ties n ts) (h : rt .none) : W_check_edges (iD n) (tiesD ts) rt er := w_check_edges t.pairs (by have := t.len; omega) (fun _ => h) fun e => by rw [t.rise] at e; cases e
theorem w_round (h2 : 2 ≤ n) (h6 : n ≤ 6) (t : Ties n ts) (h : rt .none) : W_check_round (iD n) (tiesD ts) rt er := by
  unfold W_check_round
  refine w_check_number (fun _ => w_edges t h) fun e => ?_
  have : ftB (iD n) 2 6 = true := by
    show (decide ((2 : Int) ≤ (n : Int)) && decide ((n : Int) ≤ 6)) = true
    rw [decide_eq_true (by omega), decide_eq_true (by omega)]; rfl
  rw [this] at e; cases e
theorem w_round_num (hd : ftB d 2 6 = false) (h : er "BadNumber" none) : W_check_round d e rt er := by
  unfold W_check_round
  exact w_check_number (fun e => by rw [hd] at e; cases e) fun _ => h
theorem w_round_ties (h2 : 2 ≤ n) (h6 : n ≤ 6) (hd : BadTies n d) (h : er "BadCalls" none) : W_check_round (iD n) d rt er := by
  unfold W_check_round
  refine w_check_number (fun _ => hd _ _ h) fun e => ?_
  have : ftB (iD n) 2 6 = true := by
    show (decide ((2 : Int) ≤ (n : Int)) && decide ((n : Int) ≤ 6)) = true
    rw [decide_eq_true (by omega), decide_eq_true (by omega)]; rfl
  rw [this] at e; cases e
/-! what is drawn -/
theorem w_bad_number (h : ∀ d, ftB d 2 6 = false → rt d) : W__law_bad_number rt er := by
  unfold W__law_bad_number
  refine ⟨by decide, ⟨by simp, ?_⟩⟩
  refine w_take (m := 9) (by decide) (by decide) fun r hr => ?_
  match r, hr with
  | 0, _ => exact ix_ok (n := 0) rfl (h _ rfl)
  | 1, _ => exact ix_ok (n := 1) rfl (h _ rfl)
  | 2, _ => exact ix_ok (n := 2) rfl (h _ rfl)
  | 3, _ => exact ix_ok (n := 3) rfl (h _ rfl)
  | 4, _ => exact ix_ok (n := 4) rfl (h _ rfl)
  | 5, _ => exact ix_ok (n := 5) rfl (h _ rfl)
  | 6, _ => exact ix_ok (n := 6) rfl (h _ rfl)
  | 7, _ => exact ix_ok (n := 7) rfl (h _ rfl)
  | 8, _ => exact ix_ok (n := 8) rfl (h _ rfl)
  | w + 9, h => exact absurd h (by omega)
theorem prB_not {m : Int} {i j : Int} (h : ¬ (0 ≤ i ∧ i < j ∧ j ≤ m)) : prB m (.tuple [.int i, .int j]) = false := by
  cases e : prB m (.tuple [.int i, .int j]) with
  | false => rfl
  | true =>
    obtain ⟨i', j', e', h1, h2, h3, h4, h5⟩ := prB_shape e
    cases e'
    exact absurd ⟨h1, h5, h4⟩ h
theorem w_bad_pair {a b : Nat} (hab : a < b) (hb : b < n) (hn : n ≤ 6) (h : ∀ d, prB ((n : Int) - 1) d = false → rt d) : W__law_bad_pair (iD n) (iD a) (iD b) rt er := by
  unfold W__law_bad_pair
  refine w_take (m := 12) (by decide) (by decide) fun r hr => ?_
  refine ite_ok (fun e => ?_) fun e => ?_
  · have e : (r : Int) < 4 := of_decide_eq_true e
    refine ⟨by simp, by simp, by simp, by simp, by simp, ?_⟩
    match r, e with
    | 0, _ => exact ix_ok (n := 0) rfl (h _ (prB_not (by omega)))
    | 1, _ => exact ix_ok (n := 1) rfl (h _ (prB_not (by omega)))
    | 2, _ => exact ix_ok (n := 2) rfl (h _ (prB_not (by omega)))
    | 3, _ => exact ix_ok (n := 3) rfl (h _ (prB_not (by omega)))
    | w + 4, h => exact absurd h (by omega)
  · have e : ¬ (r : Int) < 4 := of_decide_eq_false e
    refine ite_ok (fun e2 => ?_) fun e2 => ?_
    · have e2 : (r : Int) < 8 := of_decide_eq_true e2
      refine ⟨by simp, by simp, by simp, by simp, by simp, ?_⟩
      obtain ⟨q, rfl⟩ : ∃ q, r = q + 4 := ⟨r - 4, by omega⟩
      show ixW _ (.int (((q + 4 : Nat) : Int) - 4)) _
      rw [show (((q + 4 : Nat) : Int) - 4) = ((q : Nat) : Int) by omega]
      match q, e2 with
      | 0, _ => exact ix_ok (n := 0) rfl (h _ rfl)
      | 1, _ => exact ix_ok (n := 1) rfl (h _ rfl)
      | 2, _ => exact ix_ok (n := 2) rfl (h _ rfl)
      | 3, _ => exact ix_ok (n := 3) rfl (h _ rfl)
      | w + 4, h => exact absurd h (by omega)
    · have e2 : ¬ (r : Int) < 8 := of_decide_eq_false e2
      refine ⟨?_, by simp, by simp, by simp, ?_⟩
      · have h9 : ((b : Nat) : Int).natAbs < 2 ^ 10 := by
          show b < 1024
          omega
        rcases Nat.eq_zero_or_pos b with rfl | hp
        · decide
        · exact Nat.lt_of_lt_of_le ((Nat.log2_lt (by show b ≠ 0; omega)).mpr h9) (by decide)
      obtain ⟨q, rfl⟩ : ∃ q, r = q + 8 := ⟨r - 8, by omega⟩
      show ixW _ (.int (((q + 8 : Nat) : Int) - 8)) _
      rw [show (((q + 8 : Nat) : Int) - 8) = ((q : Nat) : Int) by omega]
      match q, hr with
      | 0, _ => exact ix_ok (n := 0) rfl (h _ rfl)
      | 1, _ => exact ix_ok (n := 1) rfl (h _ rfl)
      | 2, _ => exact ix_ok (n := 2) rfl (h _ rfl)
      | 3, _ => exact ix_ok (n := 3) rfl (h _ (prB_not (by omega)))
      | w + 4, h => exact absurd h (by omega)
end
end Eh

namespace Eh
open PySem PySem.Spec PyProof.Rows L2
section
variable {rt : PyData → Prop} {rn : List PyData → Prop} {er : XP} {d e : PyData} {n m : Nat} {bs : List Nat} {ts : List (Nat × Nat)}
theorem ltP_irr (p : Nat × Nat) : ltP p p = false := by
  unfold ltP
  rw [HT.lexLt_cons, if_pos rfl, HT.lexLt_cons, if_pos rfl]; rfl
theorem ltP_iff {p q : Nat × Nat} : ltP p q = true ↔ p.1 < q.1 ∨ p.1 = q.1 ∧ p.2 < q.2 := by
  unfold ltP
  rw [HT.lexLt_cons, HT.lexLt_cons, HT.lexLt_nil_nil]
  by_cases h : (p.1 : Int) = (q.1 : Int)
  · rw [if_pos h]
    by_cases h2 : (p.2 : Int) = (q.2 : Int)
    · rw [if_pos h2]
      exact ⟨(fun z => nomatch z), fun z => by omega⟩
    · rw [if_neg h2, decide_eq_true_eq]; omega
  · rw [if_neg h, decide_eq_true_eq]; omega
theorem ltP_asymm {p q : Nat × Nat} (h : ltP p q = true) : ltP q p = false := by
  cases e : ltP q p with
  | false => rfl
  | true => rw [ltP_iff] at h e; omega
theorem bad_ties_rest (t : Ties n ts) (h2 : 2 ≤ n) (h6 : n ≤ 6) {at_ : Nat} (hat : at_ < ts.length) {p : Nat × Nat} (hp : ts[at_]? = some p) (h : ∀ d, BadTies n d → rt d) :
    seqW (tiesD ts) fun l9 => ixW l9 (iD at_) fun t35 => seqW t35 fun l10 => ixW l10 (.int 0) fun t36 => seqW (tiesD ts) fun l11 => ixW l11 (iD at_) fun t37 => seqW t37 fun l12 => ixW l12 (.int 1) fun t38 => W__law_bad_pair (iD n) t36 t38 (fun bad => intW (iD at_) fun i5 => slDW (tiesD ts) none (some i5) fun t39 => dispT [bad] fun t40 => addW t39 t40 fun t41 => addW (iD at_) (.int 1) fun t42 => intW t42 fun i6 => slDW (tiesD ts) (some i6) none fun t43 => addW t41 t43 fun t44 => rt t44) er := by
  have hl := t.len
  have hat' : at_ < (ts.map prD).length := by rw [List.length_map]; exact hat
  have hpm : (ts.map prD)[at_]? = some (prD p) := by rw [List.getElem?_map, hp]; rfl
  have hpo := t.ok p (List.mem_of_getElem? hp)
  refine ix_ok hpm (ix_ok (n := 0) rfl (ix_ok hpm (ix_ok (n := 1) rfl ?_)))
  refine w_bad_pair hpo.1 hpo.2 h6 fun bad hbad => ?_
  refine slI_to (Nat.le_of_lt hat') ?_
  refine ⟨by simp, ?_⟩
  refine ⟨by simp; omega, ?_⟩
  refine slA_from 1 hat' ?_
  refine ⟨by simp; omega, h _ (bad_pairs (by simp [lsq]; omega) ?_)⟩
  show (((ts.map prD).take at_ ++ [bad]) ++ (ts.map prD).drop (at_ + 1)).all (prB ((n : Int) - 1)) = false
  rw [List.all_append, List.all_append]
  show ((_ && (prB ((n : Int) - 1) bad && true)) && _) = false
  rw [hbad, Bool.false_and, Bool.and_false, Bool.false_and]
theorem w_bad_ties (t : Ties n ts) (h2 : 2 ≤ n) (h6 : n ≤ 6) (h : ∀ d, BadTies n d → rt d) : W__law_bad_ties (iD n) (tiesD ts) rt er := by
  have hl := t.len
  unfold W__law_bad_ties
  refine w_take (m := 12) (by decide) (by decide) fun kind hk => ?_
  refine eqI_ok (ite_ok (fun _ => h _ (bad_pairs (by simp [lsq]; omega) rfl)) fun _ => ?_)
  refine eqI_ok (ite_ok (fun _ => h _ (bad_pairs (by simp [lsq]) rfl)) fun _ => ?_)
  refine eqI_ok (ite_ok (fun _ => h _ (bad_pairs (by simp [lsq]) rfl)) fun _ => ?_)
  show eqW (.int ((ts.map prD).length : Nat)) (.int ((0 : Nat) : Int)) _
  rw [List.length_map]
  refine eqN_ok (ite_ok (fun _ => ?_) fun h0 => ?_)
  · refine w_bad_pair (a := 0) (b := 1) (by decide) (by omega) h6 fun d hd => ⟨by simp, h _ (bad_pairs (by simp [lsq]) ?_)⟩
    show (prB ((n : Int) - 1) d && true) = false
    rw [hd]; rfl
  have h0 : 0 < ts.length := Nat.pos_of_ne_zero (of_decide_eq_false h0)
  show W__law_take (.int ((ts.map prD).length : Nat)) _ _
  rw [List.length_map]
  refine w_take h0 (by omega) fun at_ hat => ?_
  have hat' : at_ < (ts.map prD).length := by rw [List.length_map]; exact hat
  obtain ⟨p, hp⟩ : ∃ p, ts[at_]? = some p := ⟨_, List.getElem?_eq_getElem hat⟩
  have hpm : (ts.map prD)[at_]? = some (prD p) := by rw [List.getElem?_map, hp]; rfl
  refine ite_ok (fun _ => ?_) fun _ => ?_
  · refine slI_to (Nat.le_of_lt hat') ?_
    refine ix_ok hpm ⟨by simp, ?_⟩
    refine ⟨by simp; omega, ?_⟩
    refine slI_from (Nat.le_of_lt hat') ?_
    refine ⟨by simp; omega, h _ ?_⟩
    have e : ((ts.map prD).take at_ ++ [prD p]) ++ (ts.map prD).drop at_ = (ts.take at_ ++ [p] ++ ts.drop at_).map prD := by
      rw [List.map_append, List.map_append, List.map_take, List.map_drop]; rfl
    rw [e]
    have e3 : ts.drop at_ = p :: ts.drop (at_ + 1) := by
      rw [List.getElem?_eq_getElem hat] at hp
      rw [← Option.some.inj hp]; exact List.drop_eq_getElem_cons hat
    refine bad_rise (k := at_) (fun q hq => ?_) (by simp; omega) (by simp; omega) ?_
    · rcases List.mem_append.mp hq with hq | hq
      · rcases List.mem_append.mp hq with hq | hq
        · exact t.ok q (List.mem_of_mem_take hq)
        · rw [List.mem_singleton.mp hq]; exact t.ok p (List.mem_of_getElem? hp)
      · exact t.ok q (List.mem_of_mem_drop hq)
    · have ht : (ts.take at_).length = at_ := by rw [List.length_take]; omega
      have g1 : (ts.take at_ ++ [p] ++ ts.drop at_).getD at_ (0, 0) = p := by
        rw [List.getD_eq_getElem?_getD, List.append_assoc, List.getElem?_append_right (by omega), ht, Nat.sub_self]; rfl
      have g2 : (ts.take at_ ++ [p] ++ ts.drop at_).getD (at_ + 1) (0, 0) = p := by
        rw [List.getD_eq_getElem?_getD, List.append_assoc, List.getElem?_append_right (by omega), ht, e3, show at_ + 1 - at_ = 1 by omega]; rfl
      rw [g1, g2]; exact ltP_irr p
  · refine and_ok (decide ((kind : Int) < 7)) (fun k h => h) (fun _ => ?_) fun _ => ?_
    · show iteW (decide ((1 : Int) < ((ts.map prD).length : Nat))) _ _
      rw [List.length_map]
      refine ite_ok (fun e => ?_) fun _ => ?_
      · have e : 1 < (ts.length : Int) := of_decide_eq_true e
        show W__law_take (.int (((ts.map prD).length : Nat) - 1)) _ _
        rw [List.length_map]
        rw [show ((ts.length : Int) - 1) = ((ts.length - 1 : Nat) : Int) by omega]
        refine w_take (by omega) (by omega) fun i hi => ?_
        have hi' : i < (ts.map prD).length := by rw [List.length_map]; omega
        obtain ⟨p, hp⟩ : ∃ p, ts[i]? = some p := ⟨_, List.getElem?_eq_getElem (by omega)⟩
        obtain ⟨q, hq⟩ : ∃ q, ts[i + 1]? = some q := ⟨_, List.getElem?_eq_getElem (by omega)⟩
        refine slI_to (Nat.le_of_lt hi') ?_
        show ixW _ (.int ((i : Int) + 1)) _
        rw [show ((i : Int) + 1) = ((i + 1 : Nat) : Int) by omega]
        refine ix_ok (d := prD q) (by rw [List.getElem?_map, hq]; rfl) (ix_ok (d := prD p) (by rw [List.getElem?_map, hp]; rfl) ⟨by simp, ⟨by simp; omega, ?_⟩⟩)
        refine slA_from 2 (by rw [List.length_map]; omega) ?_
        refine ⟨by simp; omega, h _ ?_⟩
        have e : ((ts.map prD).take i ++ [prD q, prD p]) ++ (ts.map prD).drop (i + 2) = (ts.take i ++ [q, p] ++ ts.drop (i + 2)).map prD := by
          rw [List.map_append, List.map_append, List.map_take, List.map_drop]; rfl
        rw [e]
        refine bad_rise (k := i) (fun r hr => ?_) (by simp; omega) (by simp; omega) ?_
        · rcases List.mem_append.mp hr with hr | hr
          · rcases List.mem_append.mp hr with hr | hr
            · exact t.ok r (List.mem_of_mem_take hr)
            · rcases List.mem_cons.mp hr with rfl | hr
              · exact t.ok _ (List.mem_of_getElem? hq)
              · rw [List.mem_singleton.mp hr]; exact t.ok p (List.mem_of_getElem? hp)
          · exact t.ok r (List.mem_of_mem_drop hr)
        · have ht : (ts.take i).length = i := by rw [List.length_take]; omega
          have g1 : (ts.take i ++ [q, p] ++ ts.drop (i + 2)).getD i (0, 0) = q := by
            rw [List.getD_eq_getElem?_getD, List.append_assoc, List.getElem?_append_right (by omega), ht, Nat.sub_self]; rfl
          have g2 : (ts.take i ++ [q, p] ++ ts.drop (i + 2)).getD (i + 1) (0, 0) = p := by
            rw [List.getD_eq_getElem?_getD, List.append_assoc, List.getElem?_append_right (by omega), ht, show i + 1 - i = 1 by omega]; rfl
          rw [g1, g2]
          have := List.pairwise_iff_getElem.mp t.asc i (i + 1) (by omega) (by omega) (by omega)
          rw [List.getElem?_eq_getElem (by omega)] at hp hq
          rw [Option.some.inj hp, Option.some.inj hq] at this
          exact ltP_asymm this
      · exact bad_ties_rest t h2 h6 hat hp h
    · exact bad_ties_rest t h2 h6 hat hp h
end
end Eh

namespace Eh
open PySem PySem.Spec PyProof.Rows L2
section
variable {rt : PyData → Prop} {rn : List PyData → Prop} {er : XP} {d e : PyData} {n m : Nat} {bs : List Nat} {ts : List (Nat × Nat)}
/-! spoilt rows -/
def wrongs : List PyData := [.int 2, .int (0 - 1), .bool true, .bool false, .none, .str (PySem.Str.ofString "1"), .tuple [.int 0], .int 100000000000000000000]
theorem wrong_at {r : Nat} (hr : r < 8) : ∃ x, wrongs[r]? = some x ∧ ftB x 0 1 = false := by
  match r, hr with
  | 0, _ => exact ⟨_, rfl, rfl⟩
  | 1, _ => exact ⟨_, rfl, rfl⟩
  | 2, _ => exact ⟨_, rfl, rfl⟩
  | 3, _ => exact ⟨_, rfl, rfl⟩
  | 4, _ => exact ⟨_, rfl, rfl⟩
  | 5, _ => exact ⟨_, rfl, rfl⟩
  | 6, _ => exact ⟨_, rfl, rfl⟩
  | 7, _ => exact ⟨_, rfl, rfl⟩
  | w + 8, h => exact absurd h (by omega)
/-- a row of bits, spoilt: with the place told -/
def OddB (m : Nat) (o : PyData) : Prop := ∃ d p, o = .list [d, .int p] ∧ BadBits m d p
theorem w_bad_bits (hb : Bits m bs) (hm : m ≤ 15) (h : ∀ o, OddB m o → rt o) : W__law_bad_bits (bitL bs) rt er := by
  have hl := hb.1
  have h' : ∀ d p, BadBits m d p → rt (.list [d, .int p]) := fun d p hd => h _ ⟨d, p, rfl, hd⟩
  unfold W__law_bad_bits
  refine w_take (m := 16) (by decide) (by decide) fun kind hk => ?_
  refine eqI_ok (ite_ok (fun _ => ?_) fun _ => ?_)
  · refine ⟨by simp, ⟨by simp; omega, ?_⟩⟩
    refine ⟨by simp, h' _ 0 (bad_shape (by simp [lsq]; omega) fun _ => by simp [lsq]; omega)⟩
  refine orI_ok (decide ((kind : Int) = 1)) (decide (bs.length = 0)) (fun k hkk => eqI_ok hkk) (fun _ k hkk => ?_) (fun _ => ?_) fun _ h0 => ?_
  · show eqW (.int ((bs.map iD).length : Nat)) (.int ((0 : Nat) : Int)) _
    rw [List.length_map]; exact eqN_ok hkk
  · refine ⟨by simp, ⟨by simp; omega, ?_⟩⟩
    refine ⟨by simp, h' _ 0 (bad_shape (by simp [lsq]; omega) fun _ => by simp [lsq]; omega)⟩
  have h0 : 0 < bs.length := Nat.pos_of_ne_zero (of_decide_eq_false h0)
  refine eqI_ok (ite_ok (fun _ => ?_) fun _ => ?_)
  · refine ⟨by simp, h' _ 0 (bad_shape (by simp [lsq, cutD]; omega) fun _ => ?_)⟩
    show (cutD (bs.map iD) none (some (-1))).length ≠ m
    have : (cutD (bs.map iD) none (some (-1))).length < bs.length := by
      unfold cutD HT.sIx
      simp only [List.length_take, List.length_drop, List.length_map]
      split <;> omega
    omega
  refine eqI_ok (ite_ok (fun _ => ?_) fun _ => ?_)
  · exact ⟨by simp, h' _ 0 (bad_shape (by simp [lsq]) fun z => nomatch z)⟩
  refine eqI_ok (ite_ok (fun _ => ?_) fun _ => ?_)
  · refine ⟨?_, ?_, by decide, ?_⟩
    · show (-1000 : Int) ≤ ((bs.map iD).length : Nat)
      omega
    · show (((bs.map iD).length : Nat) : Int) ≤ 1000
      rw [List.length_map]; omega
    exact ⟨by simp, h' _ 0 (bad_shape (by simp [lsq]) fun z => nomatch z)⟩
  refine ⟨by simp, ⟨by simp, ?_⟩⟩
  show W__law_take (.int ((bs.map iD).length : Nat)) _ _
  rw [List.length_map]
  refine w_take h0 (by omega) fun at_ hat => ?_
  refine w_take (m := 8) (by decide) (by decide) fun r hr => ?_
  obtain ⟨x, hx, hfx⟩ := wrong_at hr
  refine ix_ok (xs := wrongs) hx ?_
  refine set_ok (by rw [List.length_map]; exact hat) ?_
  show W__law_take (.int (((bs.map iD).length : Nat) - (at_ : Int))) _ _
  rw [List.length_map, show ((bs.length : Int) - (at_ : Int)) = ((bs.length - at_ : Nat) : Int) by omega]
  refine w_take (by omega) (by omega) fun off hoff => ?_
  have key : ∀ zs : List PyData, zs.length = m → zs[at_]? = some x → (∀ j y, j < at_ → zs[j]? = some y → ftB y 0 1 = true) →
      W__law_take (.int 2) (fun t34 => eqW t34 (.int 0) fun t35 => boolW t35 fun b9 => iteW b9 (tupW zs fun t36 => dispL [t36, iD at_] fun l19 => fzW l19 fun t37 => rt t37) (dispL [(.list zs), iD at_] fun l20 => fzW l20 fun t38 => rt t38)) er := fun zs hz hzx hzb => by
    refine w_take (m := 2) (by decide) (by decide) fun b hb => eqI_ok (ite_ok (fun _ => ?_) fun _ => ?_)
    · exact ⟨by simp, h' _ _ (bad_place rfl hz (by omega) hzx hzb hfx)⟩
    · exact ⟨by simp, h' _ _ (bad_place rfl hz (by omega) hzx hzb hfx)⟩
  have hxs : ((bs.map iD).set at_ x)[at_]? = some x := by rw [List.getElem?_set_self (by rw [List.length_map]; exact hat)]
  have hxb : ∀ j y, j < at_ → ((bs.map iD).set at_ x)[j]? = some y → ftB y 0 1 = true := fun j y hj hy => by
    rw [List.getElem?_set_ne (by omega), List.getElem?_map] at hy
    cases e : bs[j]? with
    | none => rw [e] at hy; cases hy
    | some b =>
      rw [e] at hy
      cases hy
      exact ftB_nat (by have := hb.2 b (List.mem_of_getElem? e); omega)
  refine ite_ok (fun hlt => ?_) fun _ => ?_
  · have hlt : (at_ : Int) < (at_ : Int) + (off : Int) := of_decide_eq_true hlt
    refine w_take (m := 8) (by decide) (by decide) fun r2 hr2 => ?_
    obtain ⟨x2, hx2, hfx2⟩ := wrong_at hr2
    refine ix_ok (xs := wrongs) hx2 ?_
    show setW _ (.int ((at_ : Int) + (off : Int))) _ _
    rw [show ((at_ : Int) + (off : Int)) = ((at_ + off : Nat) : Int) by omega]
    refine set_ok (by rw [List.length_set, List.length_map]; omega) (key _ (by simp; omega) ?_ fun j y hj hy => ?_)
    · rw [List.getElem?_set_ne (by omega)]; exact hxs
    · rw [List.getElem?_set_ne (by omega)] at hy; exact hxb j y hj hy
  · exact key _ (by simp; omega) hxs hxb
/-! ties drawn -/
def pairsN (n : Nat) : List (Nat × Nat) := (List.range n).flatMap fun i => (List.range (n - (i + 1))).map fun k => (i, i + 1 + k)
theorem pairs_ties : ∀ n, 2 ≤ n → n ≤ 6 → Ties n (pairsN n) := fun n h2 h6 => by
  have : n = 2 ∨ n = 3 ∨ n = 4 ∨ n = 5 ∨ n = 6 := by omega
  rcases this with rfl | rfl | rfl | rfl | rfl <;> exact ⟨by decide, by decide, by decide⟩
theorem Ties.filter (t : Ties n ts) (p : Nat × Nat → Bool) : Ties n (ts.filter p) := ⟨fun q hq => t.ok q (List.mem_filter.mp hq).1, t.asc.filter p, Nat.le_trans (List.length_filter_le _ _) t.len⟩
theorem Ties.nodup (t : Ties n ts) : ts.Nodup := t.asc.imp fun {a b} h e => by rw [e, ltP_irr] at h; cases h
theorem w_law_ties (h2 : 2 ≤ n) (h6 : n ≤ 6) (h : ∀ ts, Ties n ts → rt (tiesD ts)) : W__law_ties (iD n) rt er := by
  unfold W__law_ties
  have t := pairs_ties n h2 h6
  refine ⟨by simp, ?_⟩
  refine rng_ok (by omega) ?_
  refine for_ok iD (fun i st => st = (((List.range n).take i).flatMap fun i => (List.range (n - (i + 1))).map fun k => (i, i + 1 + k)).map prD) rfl ?_ ?_
  · rintro i x st hx rfl nx bk hn hb
    have hi : i < n := by simpa using (List.getElem?_eq_some_iff.mp hx).1
    rw [List.getElem?_range hi] at hx
    cases hx
    show rng2W (.int ((i : Int) + 1)) (.int (n : Nat)) _
    rw [show ((i : Int) + 1) = ((i + 1 : Nat) : Int) by omega]
    refine rng2_ok (by omega) (by omega) ?_
    have hlen : (((List.range n).take i).flatMap fun i => (List.range (n - (i + 1))).map fun k => (i, i + 1 + k)).length ≤ 36 := by
      rw [List.length_flatMap]
      have : ∀ (xs : List Nat), (∀ x ∈ xs, x ≤ 6) → xs.sum ≤ 6 * xs.length := fun xs => by
        induction xs with
        | nil => intro _; simp
        | cons x xs ih =>
          intro hx
          have := hx x List.mem_cons_self
          have := ih fun y hy => hx y (List.mem_cons_of_mem _ hy)
          rw [List.sum_cons, List.length_cons]; omega
      have h9 := this (((List.range n).take i).map fun i => ((List.range (n - (i + 1))).map fun k => (i, i + 1 + k)).length) fun x hx => by
        obtain ⟨j, _, rfl⟩ := List.mem_map.mp hx
        simp; omega
      simp only [List.length_map, List.length_take, List.length_range] at h9 ⊢
      have h10 : min i n ≤ 6 := by omega
      have h11 : 6 * min i n ≤ 36 := by omega
      exact Nat.le_trans h9 h11
    generalize hS : (((List.range n).take i).flatMap fun i => (List.range (n - (i + 1))).map fun k => (i, i + 1 + k)) = S at hlen
    refine for_ok (fun t => iD (i + 1 + t)) (fun j st => st = (S ++ ((List.range (n - (i + 1))).take j).map fun k => (i, i + 1 + k)).map prD) (by simp) ?_ ?_
    · rintro j y st hy rfl nx' bk' hn' hb'
      have hj : j < n - (i + 1) := by simpa using (List.getElem?_eq_some_iff.mp hy).1
      rw [List.getElem?_range hj] at hy
      cases hy
      refine ⟨by simp, ⟨by simp; omega, hn' _ ?_⟩⟩
      rw [take_map_range _ hj, ← List.append_assoc, List.map_append (l₂ := [_])]; rfl
    · rintro st rfl
      refine hn _ ?_
      rw [List.length_range, List.take_of_length_le (by simp), List.take_add_one, List.getElem?_range hi, List.flatMap_append, hS]
      show _ = (S ++ ([i].flatMap _)).map prD
      rw [List.flatMap_cons, List.flatMap_nil, List.append_nil]
  · rintro st rfl
    rw [List.length_range, List.take_of_length_le (by simp)]
    show W__law_take (.int 7) _ _
    change Ties n ((List.range n).flatMap fun i => (List.range (n - (i + 1))).map fun k => (i, i + 1 + k)) at t
    generalize ((List.range n).flatMap fun i => (List.range (n - (i + 1))).map fun k => (i, i + 1 + k)) = ps at t
    have hpl := t.len
    refine w_take (m := 7) (by decide) (by decide) fun shape hs => ?_
    refine eqI_ok (ite_ok (fun _ => h _ t) fun _ => ?_)
    have shp : ∀ p : Nat × Nat, SeqAt.shaped (prD p) = true := fun p => (shD_tup (n := 0) fun d hd => by
      rcases List.mem_cons.mp hd with rfl | hd
      · exact shD_int _
      · rw [List.mem_singleton.mp hd]; exact shD_int _).sh (by decide)
    refine eqI_ok (ite_ok (fun _ => ?_) fun _ => ?_)
    · refine lc_ok prD prD (fun p => decide ((p.2 : Int) = (p.1 : Int) + 1) || PyData.eqv (prD p) (.tuple [.int 0, .int ((n : Int) - 1)])) (by omega) (fun p hp Y N hY hN => ?_) (h _ (t.filter _))
      refine orI_ok (decide ((p.2 : Int) = (p.1 : Int) + 1)) (PyData.eqv (prD p) (.tuple [.int 0, .int ((n : Int) - 1)])) (fun k hk => ?_) (fun _ k hk => ?_) (fun e => hY ?_) fun e1 e2 => hN ?_
      · exact ix_ok (n := 1) rfl (ix_ok (n := 0) rfl (eqI_ok hk))
      · refine ⟨by simp, ⟨shp p, ?_, hk⟩⟩
        exact (shD_tup (n := 0) fun d hd => by
          rcases List.mem_cons.mp hd with rfl | hd
          · exact shD_int _
          · rw [List.mem_singleton.mp hd]; exact shD_int _).sh (by decide)
      · show (_ || _) = true
        rcases e with e | e
        · rw [e, Bool.true_or]
        · rw [e, Bool.or_true]
      · show (_ || _) = false
        rw [e1, e2]; rfl
    refine eqI_ok (ite_ok (fun _ => ?_) fun _ => ?_)
    · refine w_take (by omega) (by omega) fun mid hm => ?_
      refine lc_ok prD prD (fun p => decide (mid ∈ [p.1, p.2])) (by omega) (fun p hp Y N hY hN => ?_) (h _ (t.filter _))
      exact inN_ok (ns := [p.1, p.2]) (ite_ok hY hN)
    have rest : ∀ qs, Ties n qs → W__law_take (.int 3) (fun t27 => addW (.int 2) t27 fun rare => lcW (qs.map prD) (fun pair4 Y5 N5 => W__law_take rare (fun t29 => eqW t29 (.int 0) fun t30 => boolW t30 fun b10 => iteW b10 (Y5 pair4) N5) noX) fun l13 => tupW l13 fun t31 => rt t31) er := fun qs tq => by
      have hql := tq.len
      refine w_take (m := 3) (by decide) (by decide) fun r hr => ?_
      refine lc_any prD prD (fun _ _ => True) (by omega) tq.nodup (fun p hp Y N hY hN => ?_) fun p _ => h _ (tq.filter p)
      show W__law_take (.int (2 + (r : Int))) _ _
      rw [show (2 + (r : Int)) = ((2 + r : Nat) : Int) by omega]
      exact w_take (by omega) (by omega) fun _ _ => eqI_ok (ite_ok (fun _ => hY trivial) fun _ => hN trivial)
    refine eqI_ok (ite_ok (fun _ => ?_) fun _ => rest ps t)
    refine rng_ok (by omega) (lcM_any (xs := List.range n) iD iD (fun _ _ => True) (by simp; omega) (fun x _ Y hY => w_take (m := 2) (by decide) (by decide) fun r _ => hY r trivial) fun side hsl _ => ?_)
    rw [List.length_range] at hsl
    refine lc_ok prD prD (fun p => decide (side.getD p.1 0 = side.getD p.2 0)) (by omega) (fun p hp Y N hY hN => ?_) (rest _ (t.filter _))
    have hpo := t.ok p hp
    refine ix_ok (n := 0) rfl (ix_ok (d := iD (side.getD p.1 0)) (by rw [List.getElem?_map, getD_some (d := 0) (by omega)]; rfl) ?_)
    exact ix_ok (n := 1) rfl (ix_ok (d := iD (side.getD p.2 0)) (by rw [List.getElem?_map, getD_some (d := 0) (by omega)]; rfl) (eqN_ok (ite_ok hY hN)))
end
end Eh

namespace Eh
open PySem PySem.Spec PyProof.Rows L2
variable {A : Str → Addr} {K : PySem.W.Frag} {w : World}
abbrev N_is_lot : List Str := ["value", "many", "least", "one"]
def t_is_lot (K : PySem.W.Frag) (w : World) (sp_is_from_to : Sp) (E : XK) : TS :=
  (tSeq (tIfS (tNot (tB (tCB (rIsi K) (tCons (tVar 0) (tCons (tC (.ty "tuple")) tNil))))) (tRet (tC (.bl false))) tNext)
    (tSeq (tAsg (tC (.int 0)) (gName 2))
    (tSeq (tFor (iSeq K (tVar 0)) (gName 3) (tSeq (tIfS (tNot (tB (tCall sp_is_from_to [] E (tCons (tVar 3) (tCons (tVar 2) (tCons (tOp rSubI (tVar 1) (tC (.int 1))) tNil)))))) (tRet (tC (.bl false))) tNext)
    (tAsg (tOp (rAddA K) (tVar 3) (tC (.int 1))) (gName 2))))
    (tRet (tC (.bl true))))))
@[irreducible] def W_is_lot (value : PyData) (many : PyData) (rt : PyData → Prop) (er : XP) : Prop :=
  isTupW value fun t1 => boolW t1 fun b1 => iteW (!b1) (rt (.bool false)) (letW (.int 0) fun least => seqW value fun l1 => forW (σ := PyData) (fun one s nx bk => subW many (.int 1) fun t4 => W_is_from_to one s t4 (fun t3 => boolW t3 fun b2 => iteW (!b2) (rt (.bool false)) (addW one (.int 1) fun least2 => nx least2)) er) (fun s => rt (.bool true)) l1 least)
theorem P_is_lot (vs : List V) (H : Hp) (Q : VK) (E : XK) (h : spF A (vl2 W_is_lot) vs H Q E) : t_is_lot K w (spF A (vl3 W_is_from_to)) E { nx := fun _ H' => Q .non H', rt := Q } (L2.start N_is_lot vs) H :=
  spF_body (N := N_is_lot) (t := fun E => t_is_lot K w (spF A (vl3 W_is_from_to)) E) h fun ds rt er B F0 D hW hr hx hn => by
    obtain ⟨value, many, rfl, h⟩ := vl2_inv hW
    unfold W_is_lot at h
    show At pc0 B F0 [.dat value, .dat many, .no, .no] (t_is_lot K w (spF A (vl3 W_is_from_to)) E D)
    refine aw_seq ?_
    refine aw_if (tw_not (tw_B (ew_isTup (ew_var rfl)))) (RaiseW.tt0 hx) h (fun h => ?_) (fun h => ?_)
    · exact aw_ret hr ew_bl (RaiseW.tt0 hx) h
    · refine aw_next ?_
      refine aw_seq ?_
      refine aw_asg (Γ' := fun least => [.dat value, .dat many, .dat least, .no]) (fun _ => rfl) (ew_let ew_int) (RaiseW.tt0 hx) h (fun least h => ?_)
      refine aw_seq ?_
      refine aw_for (σT := PyData) (vs := [3]) (fun s => [.dat value, .dat many, .dat s, .no]) (.keep (.keep (.keep (.keep .nil)))) (fw_seq (ew_var rfl)) (fun F0 D => RetOk pc0 B F0 D rt) (rok_chain hr) hx h (fun F0 one s nx bk D hr hx hn hc hb h => ?_) (fun s h => ?_)
      · refine ⟨[.dat value, .dat many, .dat s, .dat one], tg_name (by decide), ?_⟩
        refine aw_seq ?_
        refine aw_if (tw_not (tw_B (ew_call (aw_cons (ew_var rfl) (aw_cons (ew_var rfl) (aw_cons (ew_op ov_sub (ew_var rfl) ew_int) aw_nil)))))) (RaiseW.tt0 hx) h (fun h => ?_) (fun h => ?_)
        · exact aw_ret hr ew_bl (RaiseW.tt0 hx) h
        · refine aw_next ?_
          refine aw_asg (Γ' := fun least2 => [.dat value, .dat many, .dat least2, .dat one]) (fun _ => rfl) (ew_op ov_add (ew_var rfl) ew_int) (RaiseW.tt0 hx) h (fun least2 h => ?_)
          exact at_wk (.keep (.keep (.keep (.drop .nil)))) (hn _ h)
      · exact aw_ret hr ew_bl (RaiseW.tt0 hx) h
abbrev N_check_group : List Str := ["value", "many"]
def t_check_group (K : PySem.W.Frag) (w : World) (C_BadGroup : Addr) (sp_is_lot : Sp) (E : XK) : TS :=
  (tIfS (tNot (tB (tCall sp_is_lot [] E (tCons (tVar 0) (tCons (tVar 1) tNil))))) (tRaiseC E C_BadGroup) tNext)
@[irreducible] def W_check_group (value : PyData) (many : PyData) (rt : PyData → Prop) (er : XP) : Prop :=
  W_is_lot value many (fun t1 => boolW t1 fun b1 => iteW (!b1) (er "BadGroup" none) (rt .none)) er
theorem P_check_group (vs : List V) (H : Hp) (Q : VK) (E : XK) (h : spF A (vl2 W_check_group) vs H Q E) : t_check_group K w (A "BadGroup") (spF A (vl2 W_is_lot)) E { nx := fun _ H' => Q .non H', rt := Q } (L2.start N_check_group vs) H :=
  spF_body (N := N_check_group) (t := fun E => t_check_group K w (A "BadGroup") (spF A (vl2 W_is_lot)) E) h fun ds rt er B F0 D hW hr hx hn => by
    obtain ⟨value, many, rfl, h⟩ := vl2_inv hW
    unfold W_check_group at h
    show At pc0 B F0 [.dat value, .dat many] (t_check_group K w (A "BadGroup") (spF A (vl2 W_is_lot)) E D)
    refine aw_if (tw_not (tw_B (ew_call (aw_cons (ew_var rfl) (aw_cons (ew_var rfl) aw_nil))))) (RaiseW.tt0 hx) h (fun h => ?_) (fun h => ?_)
    · exact aw_raise "BadGroup" hx h
    · refine aw_next ?_
      exact hn h _
abbrev N_hidden_edges : List Str := ["edges", "group", "i", "j"]
def t_hidden_edges (K : PySem.W.Frag) (w : World) (E : XK) : TS :=
  (tRet (tLc (iSeq K (tVar 0)) (gTup K 2 (gCons (gName 2) (gCons (gName 3) gNil))) (tAnd (tTest (tOp (rNiA K) (tVar 2) (tVar 1))) (tTest (tOp (rNiA K) (tVar 3) (tVar 1)))) (tTup (tCons (tVar 2) (tCons (tVar 3) tNil))) [2, 3]))
@[irreducible] def W_hidden_edges (edges : PyData) (group : PyData) (rt : List PyData → Prop) (er : XP) : Prop :=
  seqW edges fun l1 => lcW l1 (fun x1 Y N => un2W x1 fun i j => andW (fun k1 => seqW group fun l2 => niW i l2 fun t1 => boolW t1 fun b1 => k1 b1) (fun k2 => seqW group fun l3 => niW j l3 fun t2 => boolW t2 fun b2 => k2 b2) fun b3 => iteW b3 (dispT [i, j] fun t3 => Y t3) N) fun l4 => rt l4
theorem P_hidden_edges (vs : List V) (H : Hp) (Q : VK) (E : XK) (h : spFN A (vl2 W_hidden_edges) vs H Q E) : t_hidden_edges K w E { nx := fun _ H' => Q .non H', rt := Q } (L2.start N_hidden_edges vs) H :=
  spFN_body (N := N_hidden_edges) (t := fun E => t_hidden_edges K w E) h fun ds rt er B F0 D hW hr hx => by
    obtain ⟨edges, group, rfl, h⟩ := vl2_inv hW
    unfold W_hidden_edges at h
    show At pc0 B F0 [.dat edges, .dat group, .no, .no] (t_hidden_edges K w E D)
    exact aw_retN hr (nw_lc (iw_seq (Ew.s (ew_var rfl))) (fun x Y N h => by obtain ⟨_, _, h, tg⟩ := tg_un2 (vs := [2, 3]) (i := 2) (j := 3) (by decide) (by decide) h; exact ⟨_, _, _, tg, (tw_and (tw_test (ew_ni (ew_var rfl) (Ew.s (ew_var rfl)))) (tw_test (ew_ni (ew_var rfl) (Ew.s (ew_var rfl))))), (ew_tup (aw_cons (ew_var rfl) (aw_cons (ew_var rfl) aw_nil))), h⟩)) (RaiseW.tt0 hx) h
abbrev N_lots_left : List Str := ["n", "edges", "group", "left", "found", "lot", "at", "i", "j", "person", "one"]
def t_lots_left (K : PySem.W.Frag) (w : World) (sp_hidden_edges : Sp) (E : XK) : TS :=
  (tSeq (tAsg (tLc (iRng1 (tCons (tVar 0) tNil)) (gName 9) (tTest (tOp (rNiA K) (tVar 9) (tVar 2))) (tVar 9) [9]) (gName 3))
    (tSeq (tAsg (tLst tNil) (gName 4))
    (tSeq (tWhile (tTest (tOp rGtI (tCB (rLenA K) (tCons (tVar 3) tNil)) (tC (.int 0)))) (tSeq (tAsg (tLst (tCons (tOp (rIx K) (tVar 3) (tC (.int 0))) tNil)) (gName 5))
    (tSeq (tAsg (tC (.int 0)) (gName 6))
    (tSeq (tWhile (tTest (tOp rLtI (tVar 6) (tCB (rLenA K) (tCons (tVar 5) tNil)))) (tSeq (tFor (iSeq K (tCall sp_hidden_edges [] E (tCons (tVar 1) (tCons (tVar 2) tNil)))) (gTup K 2 (gCons (gName 7) (gCons (gName 8) gNil))) (tIfS (tTest (tOp (rInA K) (tOp (rIx K) (tVar 5) (tVar 6)) (tTup (tCons (tVar 7) (tCons (tVar 8) tNil))))) (tDrop (tBM K "list" rExtend (tVar 5) (tCons (tLc (iSeq K (tTup (tCons (tVar 7) (tCons (tVar 8) tNil)))) (gName 10) (tTest (tOp (rNiA K) (tVar 10) (tVar 5))) (tVar 10) [10]) tNil))) tNext))
    (tAug 6 (tC (.int 1)) (ipI fun i j => i + j))))
    (tSeq (tDrop (tBM K "list" rAppend (tVar 4) (tCons (tThen (tCB (rSortedA K) (tCons (tVar 5) tNil)) (kTup K)) tNil)))
    (tAsg (tLc (iSeq K (tVar 3)) (gName 9) (tTest (tOp (rNiA K) (tVar 9) (tVar 5))) (tVar 9) [9]) (gName 3)))))))
    (tRet (tVar 4)))))
@[irreducible] def W_lots_left (n : PyData) (edges : PyData) (group : PyData) (rt : List PyData → Prop) (er : XP) : Prop :=
  rngW n fun it1 => lcW it1 (fun person Y N => seqW group fun l1 => niW person l1 fun t1 => boolW t1 fun b1 => iteW b1 (Y person) N) fun l2 => fzW l2 fun left => dispL [] fun found => whileW (σ := List PyData × PyData) (found, left) (fun s k1 => seqW s.2 fun l4 => lenW l4 fun t3 => gtW t3 (.int 0) fun t4 => boolW t4 fun b2 => k1 b2) (fun s nx bk => seqW s.2 fun l5 => ixW l5 (.int 0) fun t5 => dispL [t5] fun lot => letW (.int 0) fun at_ => whileW (σ := List PyData × PyData) (lot, at_) (fun s_2 k2 => lenW s_2.1 fun t7 => ltW s_2.2 t7 fun t8 => boolW t8 fun b3 => k2 b3) (fun s_2 nx bk => W_hidden_edges edges group (fun l7 => forW (σ := List PyData) (fun x1 s_3 nx bk => un2W x1 fun i j => ixW s_3 s_2.2 fun t9 => dispT [i, j] fun t10 => seqW t10 fun l8 => inW t9 l8 fun t11 => boolW t11 fun b4 => iteW b4 (dispT [i, j] fun t12 => seqW t12 fun l9 => lcW l9 (fun one Y2 N2 => niW one s_3 fun t13 => boolW t13 fun b5 => iteW b5 (Y2 one) N2) fun l10 => extW s_3 l10 fun lot2 => nx lot2) (nx s_3)) (fun s_3 => augW (fun i j => i + j) s_2.2 (.int 1) fun at_2 => nx (s_3, at_2)) l7 s_2.1) er) (fun s_2 => sortW s_2.1 fun l11 => tupW l11 fun t14 => appW s.1 t14 fun found2 => seqW s.2 fun l12 => lcW l12 (fun person2 Y3 N3 => niW person2 s_2.1 fun t15 => boolW t15 fun b6 => iteW b6 (Y3 person2) N3) fun l13 => fzW l13 fun left2 => nx (found2, left2))) (fun s => rt s.1)
theorem P_lots_left (vs : List V) (H : Hp) (Q : VK) (E : XK) (h : spFN A (vl3 W_lots_left) vs H Q E) : t_lots_left K w (spFN A (vl2 W_hidden_edges)) E { nx := fun _ H' => Q .non H', rt := Q } (L2.start N_lots_left vs) H :=
  spFN_body (N := N_lots_left) (t := fun E => t_lots_left K w (spFN A (vl2 W_hidden_edges)) E) h fun ds rt er B F0 D hW hr hx => by
    obtain ⟨n, edges, group, rfl, h⟩ := vl3_inv hW
    unfold W_lots_left at h
    show At pc0 B F0 [.dat n, .dat edges, .dat group, .no, .no, .no, .no, .no, .no, .no, .no] (t_lots_left K w (spFN A (vl2 W_hidden_edges)) E D)
    refine aw_seq ?_
    refine aw_asg (Γ' := fun left => [.dat n, .dat edges, .dat group, .dat left, .no, .no, .no, .no, .no, .no, .no]) (fun _ => rfl) (Nw.fz (nw_lc (Fw.it (fw_rng1 (ew_var rfl))) (fun x Y N h => ⟨_, _, _, tg_name (by decide), (tw_test (ew_ni (ew_var rfl) (Ew.s (ew_var rfl)))), (ew_var rfl), h⟩))) (RaiseW.tt0 hx) h (fun left h => ?_)
    refine aw_seq ?_
    refine aw_asgN (Γ' := fun found => [.dat n, .dat edges, .dat group, .dat left, .own found, .no, .no, .no, .no, .no, .no]) (fun _ => rfl) (nw_lst aw_nil) (RaiseW.tt0 hx) h (fun found h => ?_)
    refine aw_seq ?_
    refine aw_while (σT := List PyData × PyData) (X := er) (fun s => [.dat n, .dat edges, .dat group, .dat s.2, .own s.1, .no, .no, .no, .no, .no, .no]) (.keep (.keep (.keep (.keep (.keep (.keep (.keep (.keep (.keep (.keep (.keep .nil))))))))))) (fun F0 D => RetN pc0 B F0 D rt) (ron_chain hr) hx h (fun s => ⟨_, (tw_test (ew_op ov_gt (ew_len (Ew.s (ew_var rfl))) ew_int)), fun _ h => h⟩) (fun F0 s nx bk D hr hx hn hc hb h => ?_) (fun s h => ?_)
    · refine aw_seq ?_
      refine aw_asgN (Γ' := fun lot => [.dat n, .dat edges, .dat group, .dat s.2, .own s.1, .own lot, .no, .no, .no, .no, .no]) (fun _ => rfl) (nw_lst (aw_cons (ew_ix (Ew.s (ew_var rfl)) ew_int) aw_nil)) (RaiseW.tt0 hx) h (fun lot h => ?_)
      refine aw_seq ?_
      refine aw_asg (Γ' := fun at_ => [.dat n, .dat edges, .dat group, .dat s.2, .own s.1, .own lot, .dat at_, .no, .no, .no, .no]) (fun _ => rfl) (ew_let ew_int) (RaiseW.tt0 hx) h (fun at_ h => ?_)
      refine aw_seq ?_
      refine aw_while (σT := List PyData × PyData) (X := er) (fun s_2 => [.dat n, .dat edges, .dat group, .dat s.2, .own s.1, .own s_2.1, .dat s_2.2, .no, .no, .no, .no]) (.keep (.keep (.keep (.keep (.keep (.keep (.keep (.keep (.keep (.keep (.keep .nil))))))))))) (fun F0 D => RetN pc0 B F0 D rt) (ron_chain hr) hx h (fun s_2 => ⟨_, (tw_test (ew_op ov_lt (ew_var rfl) (ew_len (sw_own rfl)))), fun _ h => h⟩) (fun F0 s_2 nx bk D hr hx hn hc hb h => ?_) (fun s_2 h => ?_)
      · refine aw_seq ?_
        refine aw_for (σT := List PyData) (vs := [7, 8]) (fun s_3 => [.dat n, .dat edges, .dat group, .dat s.2, .own s.1, .own s_3, .dat s_2.2, .no, .no, .no, .no]) (.keep (.keep (.keep (.keep (.keep (.keep (.keep (.keep (.keep (.keep (.keep .nil))))))))))) (fw_seqN (nw_call (aw_cons (ew_var rfl) (aw_cons (ew_var rfl) aw_nil)))) (fun F0 D => RetN pc0 B F0 D rt) (ron_chain hr) hx h (fun F0 x1 s_3 nx bk D hr hx hn hc hb h => ?_) (fun s_3 h => ?_)
        · obtain ⟨i, j, h, tg⟩ := tg_un2 (vs := [7, 8]) (i := 7) (j := 8) (by decide) (by decide) h
          refine ⟨[.dat n, .dat edges, .dat group, .dat s.2, .own s.1, .own s_3, .dat s_2.2, .dat i, .dat j, .no, .no], tg, ?_⟩
          refine aw_if (tw_test (ew_in (ew_ix (sw_own rfl) (ew_var rfl)) (Ew.s (ew_tup (aw_cons (ew_var rfl) (aw_cons (ew_var rfl) aw_nil)))))) (RaiseW.tt0 hx) h (fun h => ?_) (fun h => ?_)
          · refine aw_extend (Γ' := fun lot2 => [.dat n, .dat edges, .dat group, .dat s.2, .own s.1, .own lot2, .dat s_2.2, .dat i, .dat j, .no, .no]) rfl (fun _ => rfl) (Nw.ls (nw_lc (iw_seq (Ew.s (ew_tup (aw_cons (ew_var rfl) (aw_cons (ew_var rfl) aw_nil))))) (fun x Y N h => ⟨_, _, _, tg_name (by decide), (tw_test (ew_ni (ew_var rfl) (sw_own rfl))), (ew_var rfl), h⟩))) (RaiseW.tt0 hx) h (fun lot2 h => ?_)
            exact at_wk (.keep (.keep (.keep (.keep (.keep (.keep (.keep (.drop (.drop (.keep (.keep .nil))))))))))) (hn _ h)
          · refine aw_next ?_
            exact at_wk (.keep (.keep (.keep (.keep (.keep (.keep (.keep (.drop (.drop (.keep (.keep .nil))))))))))) (hn _ h)
        · refine aw_aug (Γ' := fun at_2 => [.dat n, .dat edges, .dat group, .dat s.2, .own s.1, .own s_3, .dat at_2, .no, .no, .no, .no]) rfl (fun _ => rfl) ew_int (RaiseW.tt0 hx) h (fun at_2 h => ?_)
          exact at_wk (.keep (.keep (.keep (.keep (.keep (.keep (.keep (.keep (.keep (.keep (.keep .nil))))))))))) (hn _ h)
      · refine aw_seq ?_
        refine aw_append (Γ' := fun found2 => [.dat n, .dat edges, .dat group, .dat s.2, .own found2, .own s_2.1, .dat s_2.2, .no, .no, .no, .no]) rfl (fun _ => rfl) (ew_tupleL (Nw.ls (nw_sorted (lw_own rfl)))) (RaiseW.tt0 hx) h (fun found2 h => ?_)
        refine aw_asg (Γ' := fun left2 => [.dat n, .dat edges, .dat group, .dat left2, .own found2, .own s_2.1, .dat s_2.2, .no, .no, .no, .no]) (fun _ => rfl) (Nw.fz (nw_lc (iw_seq (Ew.s (ew_var rfl))) (fun x Y N h => ⟨_, _, _, tg_name (by decide), (tw_test (ew_ni (ew_var rfl) (sw_own rfl))), (ew_var rfl), h⟩))) (RaiseW.tt0 hx) h (fun left2 h => ?_)
        exact at_wk (.keep (.keep (.keep (.keep (.keep (.drop (.drop (.keep (.keep (.keep (.keep .nil))))))))))) (hn _ h)
    · exact aw_retO hr rfl h
abbrev N_sums_of : List Str := ["lots", "row", "lot", "person"]
def t_sums_of (K : PySem.W.Frag) (w : World) (E : XK) : TS :=
  (tRet (tLc (iSeq K (tVar 0)) (gName 2) tYes (tOp rModI (tCB (rSumA K) (tCons (tLc (iSeq K (tVar 2)) (gName 3) tYes (tOp (rIx K) (tVar 1) (tVar 3)) [3]) tNil)) (tC (.int 2))) [2]))
@[irreducible] def W_sums_of (lots : PyData) (row : PyData) (rt : List PyData → Prop) (er : XP) : Prop :=
  seqW lots fun l1 => lcMW l1 (fun lot Y2 => seqW lot fun l2 => lcMW l2 (fun person Y => seqW row fun l3 => ixW l3 person fun t1 => Y t1) fun l4 => sumW l4 fun t2 => modW t2 (.int 2) fun t3 => Y2 t3) fun l5 => rt l5
theorem P_sums_of (vs : List V) (H : Hp) (Q : VK) (E : XK) (h : spFN A (vl2 W_sums_of) vs H Q E) : t_sums_of K w E { nx := fun _ H' => Q .non H', rt := Q } (L2.start N_sums_of vs) H :=
  spFN_body (N := N_sums_of) (t := fun E => t_sums_of K w E) h fun ds rt er B F0 D hW hr hx => by
    obtain ⟨lots, row, rfl, h⟩ := vl2_inv hW
    unfold W_sums_of at h
    show At pc0 B F0 [.dat lots, .dat row, .no, .no] (t_sums_of K w E D)
    exact aw_retN hr (nw_lcM (iw_seq (Ew.s (ew_var rfl))) (fun x Y h => ⟨_, _, tg_name (by decide), (ew_op ov_mod (ew_sumA (Nw.s (nw_lcM (iw_seq (Ew.s (ew_var rfl))) (fun x Y h => ⟨_, _, tg_name (by decide), (ew_ix (Ew.s (ew_var rfl)) (ew_var rfl)), h⟩)))) ew_int), h⟩)) (RaiseW.tt0 hx) h
abbrev N_ways_said : List Str := ["n", "edges", "group", "secrets", "words", "lots", "found", "_", "person"]
def t_ways_said (K : PySem.W.Frag) (w : World) (sp_check_bits : Sp) (sp_check_group : Sp) (sp_check_round : Sp) (sp_hidden_edges : Sp) (sp_lots_left : Sp) (sp_sums_of : Sp) (E : XK) : TS :=
  (tSeq (tDrop (tCall sp_check_round [] E (tCons (tVar 0) (tCons (tVar 1) tNil))))
    (tSeq (tDrop (tCall sp_check_group [] E (tCons (tVar 2) (tCons (tVar 0) tNil))))
    (tSeq (tDrop (tCall sp_check_bits [] E (tCons (tVar 3) (tCons (tVar 0) tNil))))
    (tSeq (tDrop (tCall sp_check_bits [] E (tCons (tVar 4) (tCons (tVar 0) tNil))))
    (tSeq (tIfS (tB (tCB (rAny K) (tCons (tLc (iSeq K (tVar 2)) (gName 8) tYes (tOp (rNeA K) (tOp (rIx K) (tVar 3) (tVar 8)) (tOp (rIx K) (tVar 4) (tVar 8))) [8]) tNil))) (tRet (tC (.int 0))) tNext)
    (tSeq (tAsg (tCall sp_lots_left [] E (tCons (tVar 0) (tCons (tVar 1) (tCons (tVar 2) tNil)))) (gName 5))
    (tSeq (tIfS (tTest (tOp (rNeA K) (tCall sp_sums_of [] E (tCons (tVar 5) (tCons (tVar 3) tNil))) (tCall sp_sums_of [] E (tCons (tVar 5) (tCons (tVar 4) tNil))))) (tRet (tC (.int 0))) tNext)
    (tSeq (tAsg (tC (.int 1)) (gName 6))
    (tSeq (tFor (iRng1 (tCons (tOp (rAddA K) (tOp rSubI (tCB (rLenA K) (tCons (tCall sp_hidden_edges [] E (tCons (tVar 1) (tCons (tVar 2) tNil))) tNil)) (tOp rSubI (tVar 0) (tCB (rLenA K) (tCons (tVar 2) tNil)))) (tCB (rLenA K) (tCons (tVar 5) tNil))) tNil)) (gName 7) (tAsg (tOp (rMulA K) (tC (.int 2)) (tVar 6)) (gName 6)))
    (tRet (tVar 6)))))))))))
@[irreducible] def W_ways_said (n : PyData) (edges : PyData) (group : PyData) (secrets : PyData) (words : PyData) (rt : PyData → Prop) (er : XP) : Prop :=
  W_check_round n edges (fun t1 => W_check_group group n (fun t2 => W_check_bits secrets n (fun t3 => W_check_bits words n (fun t4 => seqW group fun l1 => lcMW l1 (fun person Y => seqW secrets fun l2 => ixW l2 person fun t5 => seqW words fun l3 => ixW l3 person fun t6 => neW t5 t6 fun t7 => Y t7) fun l4 => anyW l4 fun t8 => boolW t8 fun b1 => iteW b1 (rt (.int 0)) (W_lots_left n edges group (fun l5 => fzW l5 fun lots => W_sums_of lots secrets (fun l6 => fzW l6 fun t10 => W_sums_of lots words (fun l7 => fzW l7 fun t11 => neW t10 t11 fun t12 => boolW t12 fun b2 => iteW b2 (rt (.int 0)) (letW (.int 1) fun found => W_hidden_edges edges group (fun l8 => lenW l8 fun t14 => seqW group fun l9 => lenW l9 fun t15 => subW n t15 fun t16 => subW t14 t16 fun t17 => seqW lots fun l10 => lenW l10 fun t18 => addW t17 t18 fun t19 => rngW t19 fun it2 => forW (σ := PyData) (fun v s nx bk => mulW (.int 2) s fun found2 => nx found2) (fun s => rt s) it2 found) er)) er) er) er)) er) er) er) er
theorem P_ways_said (vs : List V) (H : Hp) (Q : VK) (E : XK) (h : spF A (vl5 W_ways_said) vs H Q E) : t_ways_said K w (spF A (vl2 W_check_bits)) (spF A (vl2 W_check_group)) (spF A (vl2 W_check_round)) (spFN A (vl2 W_hidden_edges)) (spFN A (vl3 W_lots_left)) (spFN A (vl2 W_sums_of)) E { nx := fun _ H' => Q .non H', rt := Q } (L2.start N_ways_said vs) H :=
  spF_body (N := N_ways_said) (t := fun E => t_ways_said K w (spF A (vl2 W_check_bits)) (spF A (vl2 W_check_group)) (spF A (vl2 W_check_round)) (spFN A (vl2 W_hidden_edges)) (spFN A (vl3 W_lots_left)) (spFN A (vl2 W_sums_of)) E) h fun ds rt er B F0 D hW hr hx hn => by
    obtain ⟨n, edges, group, secrets, words, rfl, h⟩ := vl5_inv hW
    unfold W_ways_said at h
    show At pc0 B F0 [.dat n, .dat edges, .dat group, .dat secrets, .dat words, .no, .no, .no, .no] (t_ways_said K w (spF A (vl2 W_check_bits)) (spF A (vl2 W_check_group)) (spF A (vl2 W_check_round)) (spFN A (vl2 W_hidden_edges)) (spFN A (vl3 W_lots_left)) (spFN A (vl2 W_sums_of)) E D)
    refine aw_seq ?_
    refine aw_drop (ew_call (aw_cons (ew_var rfl) (aw_cons (ew_var rfl) aw_nil))) (RaiseW.tt0 hx) h (fun _ h => ?_)
    refine aw_seq ?_
    refine aw_drop (ew_call (aw_cons (ew_var rfl) (aw_cons (ew_var rfl) aw_nil))) (RaiseW.tt0 hx) h (fun _ h => ?_)
    refine aw_seq ?_
    refine aw_drop (ew_call (aw_cons (ew_var rfl) (aw_cons (ew_var rfl) aw_nil))) (RaiseW.tt0 hx) h (fun _ h => ?_)
    refine aw_seq ?_
    refine aw_drop (ew_call (aw_cons (ew_var rfl) (aw_cons (ew_var rfl) aw_nil))) (RaiseW.tt0 hx) h (fun _ h => ?_)
    refine aw_seq ?_
    refine aw_if (tw_B (ew_any (Nw.ls (nw_lcM (iw_seq (Ew.s (ew_var rfl))) (fun x Y h => ⟨_, _, tg_name (by decide), (ew_op ov_ne (ew_ix (Ew.s (ew_var rfl)) (ew_var rfl)) (ew_ix (Ew.s (ew_var rfl)) (ew_var rfl))), h⟩))))) (RaiseW.tt0 hx) h (fun h => ?_) (fun h => ?_)
    · exact aw_ret hr ew_int (RaiseW.tt0 hx) h
    · refine aw_next ?_
      refine aw_seq ?_
      refine aw_asg (Γ' := fun lots => [.dat n, .dat edges, .dat group, .dat secrets, .dat words, .dat lots, .no, .no, .no]) (fun _ => rfl) (Nw.fz (nw_call (aw_cons (ew_var rfl) (aw_cons (ew_var rfl) (aw_cons (ew_var rfl) aw_nil))))) (RaiseW.tt0 hx) h (fun lots h => ?_)
      refine aw_seq ?_
      refine aw_if (tw_test (ew_op ov_ne (Nw.fz (nw_call (aw_cons (ew_var rfl) (aw_cons (ew_var rfl) aw_nil)))) (Nw.fz (nw_call (aw_cons (ew_var rfl) (aw_cons (ew_var rfl) aw_nil)))))) (RaiseW.tt0 hx) h (fun h => ?_) (fun h => ?_)
      · exact aw_ret hr ew_int (RaiseW.tt0 hx) h
      · refine aw_next ?_
        refine aw_seq ?_
        refine aw_asg (Γ' := fun found => [.dat n, .dat edges, .dat group, .dat secrets, .dat words, .dat lots, .dat found, .no, .no]) (fun _ => rfl) (ew_let ew_int) (RaiseW.tt0 hx) h (fun found h => ?_)
        refine aw_seq ?_
        refine aw_for (σT := PyData) (vs := [7]) (fun s => [.dat n, .dat edges, .dat group, .dat secrets, .dat words, .dat lots, .dat s, .no, .no]) (.keep (.keep (.keep (.keep (.keep (.keep (.keep (.keep (.keep .nil))))))))) (fw_rng1 (ew_op ov_add (ew_op ov_sub (ew_len (Nw.s (nw_call (aw_cons (ew_var rfl) (aw_cons (ew_var rfl) aw_nil))))) (ew_op ov_sub (ew_var rfl) (ew_len (Ew.s (ew_var rfl))))) (ew_len (Ew.s (ew_var rfl))))) (fun F0 D => RetOk pc0 B F0 D rt) (rok_chain hr) hx h (fun F0 v s nx bk D hr hx hn hc hb h => ?_) (fun s h => ?_)
        · refine ⟨[.dat n, .dat edges, .dat group, .dat secrets, .dat words, .dat lots, .dat s, .dat v, .no], tg_name (by decide), ?_⟩
          refine aw_asg (Γ' := fun found2 => [.dat n, .dat edges, .dat group, .dat secrets, .dat words, .dat lots, .dat found2, .dat v, .no]) (fun _ => rfl) (ew_op ov_mul ew_int (ew_var rfl)) (RaiseW.tt0 hx) h (fun found2 h => ?_)
          exact at_wk (.keep (.keep (.keep (.keep (.keep (.keep (.keep (.drop (.keep .nil))))))))) (hn _ h)
        · exact aw_ret hr (ew_var rfl) (RaiseW.tt0 hx) h
abbrev N__law_group : List Str := ["pool", "n", "shape", "rare", "k"]
def t__law_group (K : PySem.W.Frag) (w : World) (sp__law_take : Sp) (E : XK) : TS :=
  (tSeq (tAsg (tCall sp__law_take [] E (tCons (tVar 0) (tCons (tC (.int 6)) tNil))) (gName 2))
    (tSeq (tIfS (tTest (tOp (rEqA K) (tVar 2) (tC (.int 0)))) (tRet (tTup tNil)) tNext)
    (tSeq (tIfS (tTest (tOp (rEqA K) (tVar 2) (tC (.int 1)))) (tRet (tThen (tLstRg (tRg1 (tVar 1))) (kTup K))) tNext)
    (tSeq (tAsg (tOp (rAddA K) (tC (.int 2)) (tOp rModI (tCB rIntA (tCons (tVar 2) tNil)) (tC (.int 2)))) (gName 3))
    (tRet (tThen (tLc (iRng1 (tCons (tVar 1) tNil)) (gName 4) (tTest (tOp (rEqA K) (tCall sp__law_take [] E0 (tCons (tVar 0) (tCons (tVar 3) tNil))) (tC (.int 0)))) (tVar 4) [4]) (kTup K)))))))
@[irreducible] def W__law_group (n : PyData) (rt : PyData → Prop) (er : XP) : Prop :=
  W__law_take (.int 6) (fun shape => eqW shape (.int 0) fun t2 => boolW t2 fun b1 => iteW b1 (dispT [] fun t3 => rt t3) (eqW shape (.int 1) fun t4 => boolW t4 fun b2 => iteW b2 (rgLW n fun l1 => tupW l1 fun t5 => rt t5) (cintW shape fun t6 => modW t6 (.int 2) fun t7 => addW (.int 2) t7 fun rare => rngW n fun it1 => lcW it1 (fun k1 Y N => W__law_take rare (fun t9 => eqW t9 (.int 0) fun t10 => boolW t10 fun b3 => iteW b3 (Y k1) N) noX) fun l2 => tupW l2 fun t11 => rt t11))) er
theorem P__law_group (vs : List V) (H : Hp) (Q : VK) (E : XK) (h : spP A Pl (vl1 W__law_group) vs H Q E) : t__law_group K w (spP A Pl (vl1 W__law_take)) E { nx := fun _ H' => Q .non H', rt := Q } (L2.start N__law_group vs) H :=
  spP_body (N := N__law_group) (t := fun E => t__law_group K w (spP A Pl (vl1 W__law_take)) E) h fun C hF ds rt er B F0 D hW hr hx hn => by
    obtain ⟨n, rfl, h⟩ := vl1_inv hW
    unfold W__law_group at h
    show At C B F0 [.pool, .dat n, .no, .no, .no] (t__law_group K w (spP A Pl (vl1 W__law_take)) E D)
    refine aw_seq ?_
    refine aw_asg (Γ' := fun shape => [.pool, .dat n, .dat shape, .no, .no]) (fun _ => rfl) (ew_callP hF rfl (aw_cons ew_int aw_nil)) (RaiseW.tt0 hx) h (fun shape h => ?_)
    refine aw_seq ?_
    refine aw_if (tw_test (ew_op ov_eq (ew_var rfl) ew_int)) (RaiseW.tt0 hx) h (fun h => ?_) (fun h => ?_)
    · exact aw_ret hr (ew_tup aw_nil) (RaiseW.tt0 hx) h
    · refine aw_next ?_
      refine aw_seq ?_
      refine aw_if (tw_test (ew_op ov_eq (ew_var rfl) ew_int)) (RaiseW.tt0 hx) h (fun h => ?_) (fun h => ?_)
      · exact aw_ret hr (ew_tupleL (Nw.ls (nw_rg (ew_var rfl)))) (RaiseW.tt0 hx) h
      · refine aw_next ?_
        refine aw_seq ?_
        refine aw_asg (Γ' := fun rare => [.pool, .dat n, .dat shape, .dat rare, .no]) (fun _ => rfl) (ew_op ov_add ew_int (ew_op ov_mod (ew_cint (ew_var rfl)) ew_int)) (RaiseW.tt0 hx) h (fun rare h => ?_)
        exact aw_ret hr (ew_tupleL (Nw.ls (nw_lc (Fw.it (fw_rng1 (ew_var rfl))) (fun x Y N h => ⟨_, _, _, tg_name (by decide), (tw_test (ew_op ov_eq (ew_callP hF rfl (aw_cons (ew_var rfl) aw_nil)) ew_int)), (ew_var rfl), h⟩)))) (RaiseW.tt0 hx) h
abbrev N__law_ways : List Str := ["ties", "group", "counts", "pair", "both", "after", "mask"]
def t__law_ways (K : PySem.W.Frag) (w : World) (E : XK) : TS :=
  (tSeq (tAsg (tFrz (tDisp [((tC (.int 0)), (tC (.int 1)))])) (gName 2))
    (tSeq (tFor (iSeq K (tVar 0)) (gName 3) (tSeq (tIfS (tOr (tTest (tOp (rInA K) (tOp (rIx K) (tVar 3) (tC (.int 0))) (tVar 1))) (tTest (tOp (rInA K) (tOp (rIx K) (tVar 3) (tC (.int 1))) (tVar 1)))) tCont tNext)
    (tSeq (tAsg (tOp rOrI (tOp rShlI (tC (.int 1)) (tOp (rIx K) (tVar 3) (tC (.int 0)))) (tOp rShlI (tC (.int 1)) (tOp (rIx K) (tVar 3) (tC (.int 1))))) (gName 4))
    (tSeq (tAsg tDNewK (gName 5))
    (tSeq (tFor (iKeys (tVar 2)) (gName 6) (tSeq (sDPut (tVar 5) (tVar 6) (tOp (rAddA K) (tDGet2 (tVar 5) (tVar 6) (tC (.int 0))) (tDGet (tVar 2) (tVar 6))))
    (sDPut (tVar 5) (tOp rXorI (tVar 6) (tVar 4)) (tOp (rAddA K) (tDGet2 (tVar 5) (tOp rXorI (tVar 6) (tVar 4)) (tC (.int 0))) (tDGet (tVar 2) (tVar 6))))))
    (tAsg (tFrz (tVar 5)) (gName 2)))))))
    (tRet (tVar 2))))
@[irreducible] def W__law_ways (ties : PyData) (group : PyData) (rt : PyData → Prop) (er : XP) : Prop :=
  letW (.dict (eD [(0, 1)])) fun counts => seqW ties fun l1 => forW (σ := PyData) (fun pair s nx bk => orW (fun k1 => seqW pair fun l2 => ixW l2 (.int 0) fun t2 => seqW group fun l3 => inW t2 l3 fun t3 => boolW t3 fun b1 => k1 b1) (fun k2 => seqW pair fun l4 => ixW l4 (.int 1) fun t4 => seqW group fun l5 => inW t4 l5 fun t5 => boolW t5 fun b2 => k2 b2) fun b3 => iteW b3 (nx s) (seqW pair fun l6 => ixW l6 (.int 0) fun t6 => shlW (.int 1) t6 fun t7 => seqW pair fun l7 => ixW l7 (.int 1) fun t8 => shlW (.int 1) t8 fun t9 => borW t7 t9 fun both => dctW s fun kv => dkeysW kv fun it2 => forW (σ := List (Int × Int)) (fun mask s_2 nx bk => dgetW s_2 mask (.int 0) fun t11 => dctW s fun kv2 => dixW kv2 mask fun t12 => addW t11 t12 fun t13 => dputW s_2 mask t13 fun after => bxorW mask both fun t14 => dgetW after t14 (.int 0) fun t15 => dctW s fun kv3 => dixW kv3 mask fun t16 => addW t15 t16 fun t17 => bxorW mask both fun t18 => dputW after t18 t17 fun after2 => nx after2) (fun s_2 => nx (.dict (eD s_2))) it2 [])) (fun s => rt s) l1 counts
theorem P__law_ways (vs : List V) (H : Hp) (Q : VK) (E : XK) (h : spF A (vl2 W__law_ways) vs H Q E) : t__law_ways K w E { nx := fun _ H' => Q .non H', rt := Q } (L2.start N__law_ways vs) H :=
  spF_body (N := N__law_ways) (t := fun E => t__law_ways K w E) h fun ds rt er B F0 D hW hr hx hn => by
    obtain ⟨ties, group, rfl, h⟩ := vl2_inv hW
    unfold W__law_ways at h
    show At pc0 B F0 [.dat ties, .dat group, .no, .no, .no, .no, .no] (t__law_ways K w E D)
    refine aw_seq ?_
    refine aw_asg (Γ' := fun counts => [.dat ties, .dat group, .dat counts, .no, .no, .no, .no]) (fun _ => rfl) (ew_let ew_dspI) (RaiseW.tt0 hx) h (fun counts h => ?_)
    refine aw_seq ?_
    refine aw_for (σT := PyData) (vs := [3]) (fun s => [.dat ties, .dat group, .dat s, .no, .no, .no, .no]) (.keep (.keep (.keep (.keep (.keep (.keep (.keep .nil))))))) (fw_seq (ew_var rfl)) (fun F0 D => RetOk pc0 B F0 D rt) (rok_chain hr) hx h (fun F0 pair s nx bk D hr hx hn hc hb h => ?_) (fun s h => ?_)
    · refine ⟨[.dat ties, .dat group, .dat s, .dat pair, .no, .no, .no], tg_name (by decide), ?_⟩
      refine aw_seq ?_
      refine aw_if (tw_or (tw_test (ew_in (ew_ix (Ew.s (ew_var rfl)) ew_int) (Ew.s (ew_var rfl)))) (tw_test (ew_in (ew_ix (Ew.s (ew_var rfl)) ew_int) (Ew.s (ew_var rfl))))) (RaiseW.tt0 hx) h (fun h => ?_) (fun h => ?_)
      · exact at_cont (at_wk (.keep (.keep (.keep (.drop (.keep (.keep (.keep .nil))))))) (hc _ h))
      · refine aw_next ?_
        refine aw_seq ?_
        refine aw_asg (Γ' := fun both => [.dat ties, .dat group, .dat s, .dat pair, .dat both, .no, .no]) (fun _ => rfl) (ew_op ov_bor (ew_op ov_shl ew_int (ew_ix (Ew.s (ew_var rfl)) ew_int)) (ew_op ov_shl ew_int (ew_ix (Ew.s (ew_var rfl)) ew_int))) (RaiseW.tt0 hx) h (fun both h => ?_)
        refine aw_seq ?_
        refine aw_newD (Γ' := [.dat ties, .dat group, .dat s, .dat pair, .dat both, .dct [], .no]) rfl ?_
        refine aw_seq ?_
        refine aw_for (σT := List (Int × Int)) (vs := [6]) (fun s_2 => [.dat ties, .dat group, .dat s, .dat pair, .dat both, .dct s_2, .no]) (.keep (.keep (.keep (.keep (.keep (.keep (.keep .nil))))))) (fw_keys (ew_var rfl)) (fun F0 D => RetOk pc0 B F0 D rt) (rok_chain hr) hx h (fun F0 mask s_2 nx bk D hr hx hn hc hb h => ?_) (fun s_2 h => ?_)
        · refine ⟨[.dat ties, .dat group, .dat s, .dat pair, .dat both, .dct s_2, .dat mask], tg_name (by decide), ?_⟩
          refine aw_seq ?_
          refine aw_putD (Γ' := fun after => [.dat ties, .dat group, .dat s, .dat pair, .dat both, .dct after, .dat mask]) rfl rfl (fun _ => rfl) (ew_op ov_add (ew_dget (kw_own rfl) (ew_var rfl) ew_int) (ew_dix (Ew.k (ew_var rfl)) (ew_var rfl))) (ew_var rfl) (RaiseW.tt0 hx) h (fun after h => ?_)
          refine aw_putD (Γ' := fun after2 => [.dat ties, .dat group, .dat s, .dat pair, .dat both, .dct after2, .dat mask]) rfl rfl (fun _ => rfl) (ew_op ov_add (ew_dget (kw_own rfl) (ew_op ov_bxor (ew_var rfl) (ew_var rfl)) ew_int) (ew_dix (Ew.k (ew_var rfl)) (ew_var rfl))) (ew_op ov_bxor (ew_var rfl) (ew_var rfl)) (RaiseW.tt0 hx) h (fun after2 h => ?_)
          exact at_wk (.keep (.keep (.keep (.keep (.keep (.keep (.drop .nil))))))) (hn _ h)
        · refine aw_moveD (Γ' := [.dat ties, .dat group, .dat (.dict (eD s_2)), .dat pair, .dat both, .no, .no]) rfl rfl rfl ?_
          exact at_wk (.keep (.keep (.keep (.drop (.drop (.keep (.keep .nil))))))) (hn _ h)
    · exact aw_ret hr (ew_var rfl) (RaiseW.tt0 hx) h
abbrev N__law_mask : List Str := ["bits", "k"]
def t__law_mask (K : PySem.W.Frag) (w : World) (E : XK) : TS :=
  (tRet (tCB (rSumA K) (tCons (tLc (iRng1 (tCons (tCB (rLenA K) (tCons (tVar 0) tNil)) tNil)) (gName 1) tYes (tOp rShlI (tOp (rIx K) (tVar 0) (tVar 1)) (tVar 1)) [1]) tNil)))
@[irreducible] def W__law_mask (bits : PyData) (rt : PyData → Prop) (er : XP) : Prop :=
  seqW bits fun l1 => lenW l1 fun t1 => rngW t1 fun it1 => lcMW it1 (fun k1 Y => seqW bits fun l2 => ixW l2 k1 fun t2 => shlW t2 k1 fun t3 => Y t3) fun l3 => sumW l3 fun t4 => rt t4
theorem P__law_mask (vs : List V) (H : Hp) (Q : VK) (E : XK) (h : spF A (vl1 W__law_mask) vs H Q E) : t__law_mask K w E { nx := fun _ H' => Q .non H', rt := Q } (L2.start N__law_mask vs) H :=
  spF_body (N := N__law_mask) (t := fun E => t__law_mask K w E) h fun ds rt er B F0 D hW hr hx hn => by
    obtain ⟨bits, rfl, h⟩ := vl1_inv hW
    unfold W__law_mask at h
    show At pc0 B F0 [.dat bits, .no] (t__law_mask K w E D)
    exact aw_ret hr (ew_sumA (Nw.s (nw_lcM (Fw.it (fw_rng1 (ew_len (Ew.s (ew_var rfl))))) (fun x Y h => ⟨_, _, tg_name (by decide), (ew_op ov_shl (ew_ix (Ew.s (ew_var rfl)) (ew_var rfl)) (ew_var rfl)), h⟩)))) (RaiseW.tt0 hx) h
abbrev N__law_bits : List Str := ["mask", "n", "k"]
def t__law_bits (K : PySem.W.Frag) (w : World) (E : XK) : TS :=
  (tRet (tLc (iRng1 (tCons (tVar 1) tNil)) (gName 2) tYes (tOp rAndI (tOp rShrI (tVar 0) (tVar 2)) (tC (.int 1))) [2]))
@[irreducible] def W__law_bits (mask : PyData) (n : PyData) (rt : List PyData → Prop) (er : XP) : Prop :=
  rngW n fun it1 => lcMW it1 (fun k1 Y => shrW mask k1 fun t1 => bandW t1 (.int 1) fun t2 => Y t2) fun l1 => rt l1
theorem P__law_bits (vs : List V) (H : Hp) (Q : VK) (E : XK) (h : spFN A (vl2 W__law_bits) vs H Q E) : t__law_bits K w E { nx := fun _ H' => Q .non H', rt := Q } (L2.start N__law_bits vs) H :=
  spFN_body (N := N__law_bits) (t := fun E => t__law_bits K w E) h fun ds rt er B F0 D hW hr hx => by
    obtain ⟨mask, n, rfl, h⟩ := vl2_inv hW
    unfold W__law_bits at h
    show At pc0 B F0 [.dat mask, .dat n, .no] (t__law_bits K w E D)
    exact aw_retN hr (nw_lcM (Fw.it (fw_rng1 (ew_var rfl))) (fun x Y h => ⟨_, _, tg_name (by decide), (ew_op ov_band (ew_op ov_shr (ew_var rfl) (ew_var rfl)) ew_int), h⟩)) (RaiseW.tt0 hx) h
abbrev N__law_bad_group : List Str := ["pool", "n", "group", "kind"]
def t__law_bad_group (K : PySem.W.Frag) (w : World) (sp__law_take : Sp) (E : XK) : TS :=
  (tSeq (tAsg (tCall sp__law_take [] E (tCons (tVar 0) (tCons (tC (.int 10)) tNil))) (gName 3))
    (tSeq (tIfS (tTest (tOp (rEqA K) (tVar 3) (tC (.int 0)))) (tRet (tCB (rListA K) (tCons (tVar 2) tNil))) tNext)
    (tSeq (tIfS (tTest (tOp rLtI (tVar 3) (tC (.int 4)))) (tRet (tOp (rIx K) (tTup (tCons (tC .non) (tCons (tC (.str (PySem.Str.ofString ""))) (tCons (tTup (tCons (tVar 1) tNil)) tNil)))) (tOp rSubI (tVar 3) (tC (.int 1))))) tNext)
    (tSeq (tIfS (tTest (tOp rLtI (tVar 3) (tC (.int 7)))) (tRet (tOp (rIx K) (tTup (tCons (tTup (tCons (tOp rSubI (tC (.int 0)) (tC (.int 1))) (tCons (tC (.int 0)) tNil))) (tCons (tTup (tCons (tC (.bl true)) tNil)) (tCons (tTup (tCons (tC (.int 1)) (tCons (tC (.int 0)) tNil))) tNil)))) (tOp rSubI (tVar 3) (tC (.int 4))))) tNext)
    (tRet (tOp (rIx K) (tTup (tCons (tTup (tCons (tC (.int 0)) (tCons (tC (.int 0)) tNil))) (tCons (tTup (tCons (tC .non) tNil)) (tCons (tOp (rAddA K) (tVar 2) (tTup (tCons (tVar 1) tNil))) tNil)))) (tOp rSubI (tVar 3) (tC (.int 7)))))))))
@[irreducible] def W__law_bad_group (n : PyData) (group : PyData) (rt : PyData → Prop) (er : XP) : Prop :=
  W__law_take (.int 10) (fun kind => eqW kind (.int 0) fun t2 => boolW t2 fun b1 => iteW b1 (seqW group fun l1 => fzW l1 fun t3 => rt t3) (ltW kind (.int 4) fun t4 => boolW t4 fun b2 => iteW b2 (dispT [n] fun t5 => dispT [.none, (.str (PySem.Str.ofString "")), t5] fun t6 => seqW t6 fun l2 => subW kind (.int 1) fun t7 => ixW l2 t7 fun t8 => rt t8) (ltW kind (.int 7) fun t9 => boolW t9 fun b3 => iteW b3 (subW (.int 0) (.int 1) fun t10 => dispT [t10, (.int 0)] fun t11 => dispT [(.bool true)] fun t12 => dispT [(.int 1), (.int 0)] fun t13 => dispT [t11, t12, t13] fun t14 => seqW t14 fun l3 => subW kind (.int 4) fun t15 => ixW l3 t15 fun t16 => rt t16) (dispT [(.int 0), (.int 0)] fun t17 => dispT [.none] fun t18 => dispT [n] fun t19 => addW group t19 fun t20 => dispT [t17, t18, t20] fun t21 => seqW t21 fun l4 => subW kind (.int 7) fun t22 => ixW l4 t22 fun t23 => rt t23)))) er
theorem P__law_bad_group (vs : List V) (H : Hp) (Q : VK) (E : XK) (h : spP A Pl (vl2 W__law_bad_group) vs H Q E) : t__law_bad_group K w (spP A Pl (vl1 W__law_take)) E { nx := fun _ H' => Q .non H', rt := Q } (L2.start N__law_bad_group vs) H :=
  spP_body (N := N__law_bad_group) (t := fun E => t__law_bad_group K w (spP A Pl (vl1 W__law_take)) E) h fun C hF ds rt er B F0 D hW hr hx hn => by
    obtain ⟨n, group, rfl, h⟩ := vl2_inv hW
    unfold W__law_bad_group at h
    show At C B F0 [.pool, .dat n, .dat group, .no] (t__law_bad_group K w (spP A Pl (vl1 W__law_take)) E D)
    refine aw_seq ?_
    refine aw_asg (Γ' := fun kind => [.pool, .dat n, .dat group, .dat kind]) (fun _ => rfl) (ew_callP hF rfl (aw_cons ew_int aw_nil)) (RaiseW.tt0 hx) h (fun kind h => ?_)
    refine aw_seq ?_
    refine aw_if (tw_test (ew_op ov_eq (ew_var rfl) ew_int)) (RaiseW.tt0 hx) h (fun h => ?_) (fun h => ?_)
    · exact aw_ret hr (Nw.fz (nw_list (Ew.s (ew_var rfl)))) (RaiseW.tt0 hx) h
    · refine aw_next ?_
      refine aw_seq ?_
      refine aw_if (tw_test (ew_op ov_lt (ew_var rfl) ew_int)) (RaiseW.tt0 hx) h (fun h => ?_) (fun h => ?_)
      · exact aw_ret hr (ew_ix (Ew.s (ew_tup (aw_cons ew_non (aw_cons ew_str (aw_cons (ew_tup (aw_cons (ew_var rfl) aw_nil)) aw_nil))))) (ew_op ov_sub (ew_var rfl) ew_int)) (RaiseW.tt0 hx) h
      · refine aw_next ?_
        refine aw_seq ?_
        refine aw_if (tw_test (ew_op ov_lt (ew_var rfl) ew_int)) (RaiseW.tt0 hx) h (fun h => ?_) (fun h => ?_)
        · exact aw_ret hr (ew_ix (Ew.s (ew_tup (aw_cons (ew_tup (aw_cons (ew_op ov_sub ew_int ew_int) (aw_cons ew_int aw_nil))) (aw_cons (ew_tup (aw_cons ew_bl aw_nil)) (aw_cons (ew_tup (aw_cons ew_int (aw_cons ew_int aw_nil))) aw_nil))))) (ew_op ov_sub (ew_var rfl) ew_int)) (RaiseW.tt0 hx) h
        · refine aw_next ?_
          exact aw_ret hr (ew_ix (Ew.s (ew_tup (aw_cons (ew_tup (aw_cons ew_int (aw_cons ew_int aw_nil))) (aw_cons (ew_tup (aw_cons ew_non aw_nil)) (aw_cons (ew_op ov_add (ew_var rfl) (ew_tup (aw_cons (ew_var rfl) aw_nil))) aw_nil))))) (ew_op ov_sub (ew_var rfl) ew_int)) (RaiseW.tt0 hx) h
end Eh

/-! ### ways by coins: how many settings of edges lead to a mask (pure) -/
namespace Eh
abbrev Edge := Nat × Nat
def both (e : Edge) : Nat := 2 ^ e.1 ^^^ 2 ^ e.2
/-- the number of settings of the edges that lead to the mask -/
def cnt : List Edge → Nat → Nat
  | [], m => if m = 0 then 1 else 0
  | e :: es, m => cnt es m + cnt es (m ^^^ both e)
/-- labels: the least of what is connected; the number of settings doubled -/
def mergeL (lab : Nat → Nat) (e : Edge) : Nat → Nat := fun v => if lab v = max (lab e.1) (lab e.2) then min (lab e.1) (lab e.2) else lab v
def labF : List Edge → Nat → Nat
  | [] => fun v => v
  | e :: es => mergeL (labF es) e
def kF : List Edge → Nat
  | [] => 0
  | e :: es => if labF es e.1 = labF es e.2 then kF es + 1 else kF es
def S (n : Nat) (f : Nat → Nat) : Nat := ((List.range n).map f).sum
theorem S_succ (n : Nat) (f : Nat → Nat) : S (n + 1) f = S n f + f n := by
  unfold S
  rw [List.range_succ, List.map_append, List.sum_append]; simp
theorem S_mod {n : Nat} {f g h : Nat → Nat} (e : ∀ v, v < n → f v % 2 = (g v + h v) % 2) : S n f % 2 = (S n g + S n h) % 2 := by
  induction n with
  | zero => rfl
  | succ n ih =>
    rw [S_succ, S_succ, S_succ]
    have := e n (Nat.lt_succ_self n)
    have := ih fun v hv => e v (Nat.lt_succ_of_lt hv)
    omega
theorem S_congr {n : Nat} {f g : Nat → Nat} (e : ∀ v, v < n → f v = g v) : S n f = S n g := by
  induction n with
  | zero => rfl
  | succ n ih => rw [S_succ, S_succ, ih fun v hv => e v (Nat.lt_succ_of_lt hv), e n (Nat.lt_succ_self n)]
theorem S_zero {n : Nat} {f : Nat → Nat} (e : ∀ v, v < n → f v = 0) : S n f = 0 := by
  induction n with
  | zero => rfl
  | succ n ih => rw [S_succ, ih fun v hv => e v (Nat.lt_succ_of_lt hv), e n (Nat.lt_succ_self n)]
theorem S_one {n i : Nat} {f : Nat → Nat} (hi : i < n) (e : ∀ v, v < n → v ≠ i → f v = 0) : S n f = f i := by
  induction n with
  | zero => exact absurd hi (Nat.not_lt_zero _)
  | succ n ih =>
    rw [S_succ]
    by_cases h : i = n
    · subst h
      rw [S_zero fun v hv => e v (Nat.lt_succ_of_lt hv) (Nat.ne_of_lt hv), Nat.zero_add]
    · rw [ih (by omega) fun v hv hne => e v (Nat.lt_succ_of_lt hv) hne, e n (Nat.lt_succ_self n) (fun z => h z.symm), Nat.add_zero]
theorem S_filter (n : Nat) (p : Nat → Bool) (f : Nat → Nat) : (((List.range n).filter p).map f).sum = S n fun v => if p v = true then f v else 0 := by
  unfold S
  generalize List.range n = l
  induction l with
  | nil => rfl
  | cons x l ih =>
    rw [List.filter_cons]
    by_cases h : p x = true
    · rw [if_pos h, List.map_cons, List.sum_cons, ih, List.map_cons, List.sum_cons, if_pos h]
    · rw [if_neg h, ih, List.map_cons, List.sum_cons, if_neg h, Nat.zero_add]
/-- the bit of a mask -/
def bt (m v : Nat) : Nat := (m.testBit v).toNat
theorem bt_lt (m v : Nat) : bt m v < 2 := by unfold bt; cases m.testBit v <;> decide
theorem bt_xor (m k v : Nat) : bt (m ^^^ k) v = (bt m v + bt k v) % 2 := by
  unfold bt
  rw [Nat.testBit_xor]
  cases m.testBit v <;> cases k.testBit v <;> rfl
theorem bt_pow (i v : Nat) : bt (2 ^ i) v = if i = v then 1 else 0 := by
  unfold bt
  rw [Nat.testBit_two_pow]
  by_cases h : i = v
  · rw [decide_eq_true h, if_pos h]; rfl
  · rw [decide_eq_false h, if_neg h]; rfl
theorem bt_zero (v : Nat) : bt 0 v = 0 := by unfold bt; rw [Nat.zero_testBit]; rfl
/-- the parity of a mask on a class -/
def Pr (n : Nat) (lab : Nat → Nat) (m r : Nat) : Nat := (S n fun v => if lab v = r then bt m v else 0) % 2
theorem Pr_xor (n : Nat) (lab : Nat → Nat) (m k r : Nat) : Pr n lab (m ^^^ k) r = (Pr n lab m r + Pr n lab k r) % 2 := by
  unfold Pr
  rw [S_mod (g := fun v => if lab v = r then bt m v else 0) (h := fun v => if lab v = r then bt k v else 0) fun v _ => ?_]
  · omega
  · by_cases h : lab v = r
    · rw [if_pos h, if_pos h, if_pos h, bt_xor]; omega
    · rw [if_neg h, if_neg h, if_neg h]
theorem Pr_pow {n i : Nat} (hi : i < n) (lab : Nat → Nat) (r : Nat) : Pr n lab (2 ^ i) r = if lab i = r then 1 else 0 := by
  unfold Pr
  rw [S_one hi fun v _ hne => ?_]
  · rw [bt_pow, if_pos rfl]
    by_cases h : lab i = r
    · rw [if_pos h]
    · rw [if_neg h]
  · rw [bt_pow, if_neg (show ¬ i = v from fun z => hne z.symm)]; split <;> rfl
theorem Pr_both {n : Nat} {e : Edge} (h1 : e.1 < n) (h2 : e.2 < n) (lab : Nat → Nat) (r : Nat) : Pr n lab (both e) r = ((if lab e.1 = r then 1 else 0) + (if lab e.2 = r then 1 else 0)) % 2 := by
  unfold both
  rw [Pr_xor, Pr_pow h1, Pr_pow h2]
theorem Pr_merge (n : Nat) (lab : Nat → Nat) (e : Edge) (hne : lab e.1 ≠ lab e.2) (m r : Nat) :
    Pr n (mergeL lab e) m r = if r = min (lab e.1) (lab e.2) then (Pr n lab m (lab e.1) + Pr n lab m (lab e.2)) % 2 else if r = max (lab e.1) (lab e.2) then 0 else Pr n lab m r := by
  have hmm : ∀ v, mergeL lab e v = if lab v = max (lab e.1) (lab e.2) then min (lab e.1) (lab e.2) else lab v := fun v => rfl
  by_cases h1 : r = min (lab e.1) (lab e.2)
  · rw [if_pos h1]
    unfold Pr
    rw [S_mod (g := fun v => if lab v = lab e.1 then bt m v else 0) (h := fun v => if lab v = lab e.2 then bt m v else 0) fun v _ => ?_]
    · omega
    · rw [hmm v, h1]
      rcases Nat.lt_or_gt_of_ne hne with h | h
      · rw [Nat.min_eq_left (Nat.le_of_lt h), Nat.max_eq_right (Nat.le_of_lt h)]
        by_cases a : lab v = lab e.2
        · rw [if_pos a, if_pos rfl, if_neg (fun z => hne (z.symm.trans a)), if_pos a, Nat.zero_add]
        · rw [if_neg a, if_neg a, Nat.add_zero]
      · rw [Nat.min_eq_right (Nat.le_of_lt h), Nat.max_eq_left (Nat.le_of_lt h)]
        by_cases a : lab v = lab e.1
        · rw [if_pos a, if_pos rfl, if_pos a, if_neg (fun z => hne (a.symm.trans z)), Nat.add_zero]
        · rw [if_neg a, if_neg a, Nat.zero_add]
  · rw [if_neg h1]
    by_cases h2 : r = max (lab e.1) (lab e.2)
    · rw [if_pos h2]
      unfold Pr
      rw [S_zero fun v _ => ?_]
      rw [hmm v]
      by_cases a : lab v = max (lab e.1) (lab e.2)
      · rw [if_pos a, if_neg (fun z => h1 z.symm)]
      · rw [if_neg a, if_neg (fun z => a (z.trans h2))]
    · rw [if_neg h2]
      unfold Pr
      rw [S_congr (g := fun v => if lab v = r then bt m v else 0) fun v _ => ?_]
      rw [hmm v]
      by_cases a : lab v = max (lab e.1) (lab e.2)
      · rw [if_pos a, if_neg (fun z => h1 z.symm), if_neg (fun z => h2 (z.symm.trans a))]
      · rw [if_neg a]
/-- even on all classes -/
def Ev (n : Nat) (lab : Nat → Nat) (m : Nat) : Prop := ∀ r, Pr n lab m r = 0
theorem ev_id {n m : Nat} (hm : m < 2 ^ n) : Ev n (fun v => v) m ↔ m = 0 := by
  constructor
  · intro h
    refine Nat.eq_of_testBit_eq fun i => ?_
    rw [Nat.zero_testBit]
    by_cases hi : i < n
    · have := h i
      unfold Pr at this
      rw [S_one hi fun v _ hne => if_neg hne, if_pos rfl] at this
      have h2 := bt_lt m i
      have h3 : bt m i = 0 := by omega
      unfold bt at h3
      cases e : m.testBit i with
      | false => rfl
      | true => rw [e] at h3; cases h3
    · exact Nat.testBit_lt_two_pow (Nat.lt_of_lt_of_le hm (Nat.pow_le_pow_right (by decide) (by omega)))
  · rintro rfl r
    unfold Pr
    rw [S_zero fun v _ => by rw [bt_zero]; split <;> rfl]
theorem Pr_bd (n : Nat) (lab : Nat → Nat) (m r : Nat) : Pr n lab m r < 2 := by unfold Pr; omega
theorem both_lt {n : Nat} {e : Edge} (h1 : e.1 < n) (h2 : e.2 < n) : both e < 2 ^ n := Nat.xor_lt_two_pow (Nat.pow_lt_pow_right (by decide) h1) (Nat.pow_lt_pow_right (by decide) h2)
theorem cnt_eq {n : Nat} : ∀ {es : List Edge}, (∀ e ∈ es, e.1 < n ∧ e.2 < n) → ∀ m, m < 2 ^ n → (Ev n (labF es) m → cnt es m = 2 ^ kF es) ∧ (¬ Ev n (labF es) m → cnt es m = 0)
  | [], _, m, hm => by
    show (Ev n (fun v => v) m → (if m = 0 then 1 else 0) = 1) ∧ (¬ Ev n (fun v => v) m → (if m = 0 then 1 else 0) = 0)
    rw [ev_id hm]
    exact ⟨fun h => if_pos h, fun h => if_neg h⟩
  | e :: es, he, m, hm => by
    obtain ⟨h1, h2⟩ := he e List.mem_cons_self
    have hb := both_lt (n := n) h1 h2
    have ih := cnt_eq (es := es) (fun x hx => he x (List.mem_cons_of_mem _ hx))
    obtain ⟨a1, a2⟩ := ih m hm
    obtain ⟨b1, b2⟩ := ih (m ^^^ both e) (Nat.xor_lt_two_pow hm hb)
    show (Ev n (mergeL (labF es) e) m → cnt es m + cnt es (m ^^^ both e) = 2 ^ (if labF es e.1 = labF es e.2 then kF es + 1 else kF es)) ∧ (¬ Ev n (mergeL (labF es) e) m → cnt es m + cnt es (m ^^^ both e) = 0)
    generalize labF es = lab at *
    generalize kF es = k at *
    by_cases hl : lab e.1 = lab e.2
    · have hmg : mergeL lab e = lab := by
        funext v
        unfold mergeL
        rw [hl, Nat.max_self, Nat.min_self]
        split
        · rename_i h; exact h.symm
        · rfl
      have hpb : ∀ r, Pr n lab (both e) r = 0 := fun r => by
        rw [Pr_both h1 h2, hl]
        split <;> rfl
      have hev : Ev n lab (m ^^^ both e) ↔ Ev n lab m := by
        refine forall_congr' fun r => ?_
        rw [Pr_xor, hpb r]
        have := Pr_bd n lab m r
        omega
      rw [hmg, if_pos hl]
      exact ⟨fun h => by rw [a1 h, b1 (hev.mpr h), Nat.pow_succ]; omega, fun h => by rw [a2 h, b2 fun z => h (hev.mp z)]⟩
    · rw [if_neg hl]
      have key : Ev n (mergeL lab e) m ↔ (Ev n lab m ∨ Ev n lab (m ^^^ both e)) := by
        constructor
        · intro h
          have hlo := h (min (lab e.1) (lab e.2))
          rw [Pr_merge n lab e hl, if_pos rfl] at hlo
          have p1 := Pr_bd n lab m (lab e.1)
          have p2 := Pr_bd n lab m (lab e.2)
          have rest : ∀ r, r ≠ lab e.1 → r ≠ lab e.2 → Pr n lab m r = 0 := fun r r1 r2 => by
            have := h r
            rw [Pr_merge n lab e hl, if_neg (fun z => by rcases Nat.le_total (lab e.1) (lab e.2) with q | q <;> simp [Nat.min_eq_left, Nat.min_eq_right, q] at z <;> contradiction),
              if_neg (fun z => by rcases Nat.le_total (lab e.1) (lab e.2) with q | q <;> simp [Nat.max_eq_left, Nat.max_eq_right, q] at z <;> contradiction)] at this
            exact this
          by_cases c : Pr n lab m (lab e.1) = 0
          · refine .inl fun r => ?_
            by_cases r1 : r = lab e.1
            · rw [r1, c]
            · by_cases r2 : r = lab e.2
              · rw [r2]; omega
              · exact rest r r1 r2
          · refine .inr fun r => ?_
            rw [Pr_xor, Pr_both h1 h2]
            by_cases r1 : r = lab e.1
            · subst r1
              rw [if_pos rfl, if_neg (fun z => hl z.symm)]
              omega
            · by_cases r2 : r = lab e.2
              · subst r2
                rw [if_neg hl, if_pos rfl]
                omega
              · rw [rest r r1 r2, if_neg (fun z => r1 z.symm), if_neg (fun z => r2 z.symm)]
        · intro h r
          rw [Pr_merge n lab e hl]
          rcases h with h | h
          · rw [h (lab e.1), h (lab e.2), h r]
            split
            · rfl
            · split <;> rfl
          · have q := fun r => h r
            simp only [Pr_xor, Pr_both h1 h2] at q
            have q1 := q (lab e.1)
            have q2 := q (lab e.2)
            rw [if_pos rfl, if_neg (fun z => hl z.symm)] at q1
            rw [if_neg hl, if_pos rfl] at q2
            have p1 := Pr_bd n lab m (lab e.1)
            have p2 := Pr_bd n lab m (lab e.2)
            split
            · omega
            · split
              · rfl
              · rename_i c1 c2
                have r1 : lab e.1 ≠ r := fun z => by
                  subst z
                  rcases Nat.le_total (lab e.1) (lab e.2) with q | q
                  · exact c1 (Nat.min_eq_left q).symm
                  · exact c2 (Nat.max_eq_left q).symm
                have r2 : lab e.2 ≠ r := fun z => by
                  subst z
                  rcases Nat.le_total (lab e.1) (lab e.2) with q | q
                  · exact c2 (Nat.max_eq_right q).symm
                  · exact c1 (Nat.min_eq_right q).symm
                have q3 := q r
                rw [if_neg r1, if_neg r2] at q3
                have := Pr_bd n lab m r
                omega
      have excl : Ev n lab m → ¬ Ev n lab (m ^^^ both e) := fun h1' h2' => by
        have q1 := h1' (lab e.1)
        have q2 := h2' (lab e.1)
        rw [Pr_xor, Pr_both h1 h2, q1, if_pos rfl, if_neg (fun z => hl z.symm)] at q2
        omega
      rw [key]
      refine ⟨fun h => ?_, fun h => ?_⟩
      · rcases h with h | h
        · rw [a1 h, b2 (excl h), Nat.add_zero]
        · rw [a2 (fun z => excl z h), b1 h, Nat.zero_add]
      · rw [a2 fun z => h (.inl z), b2 fun z => h (.inr z)]
/-! the labels -/
theorem lab_le : ∀ (es : List Edge) (v : Nat), labF es v ≤ v
  | [], v => Nat.le_refl v
  | e :: es, v => by
    have ih := lab_le es v
    show mergeL (labF es) e v ≤ v
    unfold mergeL
    split
    · rename_i h
      exact Nat.le_trans (Nat.le_trans (Nat.min_le_left _ _) (Nat.le_max_left _ _)) (h ▸ ih)
    · exact ih
theorem lab_lab : ∀ (es : List Edge) (v : Nat), labF es (labF es v) = labF es v
  | [], v => rfl
  | e :: es, v => by
    have ih := lab_lab es
    show mergeL (labF es) e (mergeL (labF es) e v) = mergeL (labF es) e v
    unfold mergeL
    have hmin : labF es (min (labF es e.1) (labF es e.2)) = min (labF es e.1) (labF es e.2) := by
      rcases Nat.le_total (labF es e.1) (labF es e.2) with q | q
      · rw [Nat.min_eq_left q, ih]
      · rw [Nat.min_eq_right q, ih]
    by_cases h : labF es v = max (labF es e.1) (labF es e.2)
    · simp only [if_pos h, hmin]
      split
      · rfl
      · rfl
    · simp only [if_neg h, ih, if_neg h]
theorem lab_edge : ∀ {es : List Edge} {e : Edge}, e ∈ es → labF es e.1 = labF es e.2
  | d :: es, e, h => by
    show mergeL (labF es) d e.1 = mergeL (labF es) d e.2
    rcases List.mem_cons.mp h with rfl | h
    · unfold mergeL
      rcases Nat.le_total (labF es e.1) (labF es e.2) with q | q
      · rw [Nat.max_eq_right q, Nat.min_eq_left q, if_pos rfl]
        split
        · rfl
        · rfl
      · rw [Nat.max_eq_left q, Nat.min_eq_right q, if_pos rfl]
        split
        · rfl
        · rfl
    · unfold mergeL
      rw [lab_edge h]
/-- what the edges keep is the same on a class -/
theorem lab_inv {T : Nat → Prop} : ∀ {es : List Edge}, (∀ e ∈ es, T e.1 ↔ T e.2) → ∀ u v, labF es u = labF es v → (T u ↔ T v)
  | [], _, u, v, h => by rw [show u = v from h]
  | d :: es, hT, u, v, h => by
    have ih := lab_inv (T := T) (es := es) fun e he => hT e (List.mem_cons_of_mem _ he)
    have hd := hT d List.mem_cons_self
    have hh : mergeL (labF es) d u = mergeL (labF es) d v := h
    unfold mergeL at hh
    have fx : ∀ x, labF es x = max (labF es d.1) (labF es d.2) ∨ labF es x = min (labF es d.1) (labF es d.2) → (T x ↔ T d.1) := fun x hx => by
      rcases Nat.le_total (labF es d.1) (labF es d.2) with q | q
      · rw [Nat.max_eq_right q, Nat.min_eq_left q] at hx
        rcases hx with hx | hx
        · exact (ih _ _ hx).trans hd.symm
        · exact ih _ _ hx
      · rw [Nat.max_eq_left q, Nat.min_eq_right q] at hx
        rcases hx with hx | hx
        · exact ih _ _ hx
        · exact (ih _ _ hx).trans hd.symm
    by_cases hu : labF es u = max (labF es d.1) (labF es d.2)
    · by_cases hv : labF es v = max (labF es d.1) (labF es d.2)
      · exact ih _ _ (hu.trans hv.symm)
      · rw [if_pos hu, if_neg hv] at hh
        exact (fx u (.inl hu)).trans (fx v (.inr hh.symm)).symm
    · by_cases hv : labF es v = max (labF es d.1) (labF es d.2)
      · rw [if_neg hu, if_pos hv] at hh
        exact (fx u (.inr hh)).trans (fx v (.inl hv)).symm
      · rw [if_neg hu, if_neg hv] at hh
        exact ih _ _ hh
/-- who has no edge is alone -/
theorem lab_alone : ∀ {es : List Edge} {g : Nat}, (∀ e ∈ es, e.1 ≠ g ∧ e.2 ≠ g) → ∀ v, labF es v = g ↔ v = g
  | es, g, h, v => by
    have key := lab_inv (T := fun x => x = g) (es := es) fun e he => ⟨fun z => absurd z (h e he).1, fun z => absurd z (h e he).2⟩
    have hg : labF es g = g := (key g (labF es g) (lab_lab es g).symm).mp rfl
    exact ⟨fun e => (key v g (e.trans hg.symm)).mpr rfl, fun e => by rw [e]; exact hg⟩
/-- the number of classes -/
def roots (n : Nat) (es : List Edge) : List Nat := (List.range n).filter fun x => decide (labF es x = x)
theorem filter_minus {α : Type} [DecidableEq α] : ∀ {l : List α} {p q : α → Bool} {a : α}, l.Nodup → a ∈ l → p a = true → q a = false → (∀ x ∈ l, x ≠ a → q x = p x) → (l.filter q).length + 1 = (l.filter p).length
  | x :: l, p, q, a, hn, ha, hp, hq, he => by
    rw [List.nodup_cons] at hn
    by_cases hx : x = a
    · subst hx
      rw [List.filter_cons, List.filter_cons, if_pos hp, if_neg (by rw [hq]; exact Bool.false_ne_true), List.length_cons]
      congr 2
      exact List.filter_congr fun y hy => he y (List.mem_cons_of_mem _ hy) fun z => hn.1 (z ▸ hy)
    · have ha' : a ∈ l := (List.mem_cons.mp ha).resolve_left fun z => hx z.symm
      have ih := filter_minus hn.2 ha' hp hq fun y hy => he y (List.mem_cons_of_mem _ hy)
      have hxe := he x List.mem_cons_self hx
      rw [List.filter_cons, List.filter_cons, hxe]
      by_cases h : p x = true
      · rw [if_pos h, if_pos h, List.length_cons, List.length_cons]; omega
      · rw [if_neg h, if_neg h]; exact ih
theorem roots_len {n : Nat} : ∀ {es : List Edge}, (∀ e ∈ es, e.1 < n ∧ e.2 < n) → (roots n es).length + es.length = n + kF es
  | [], _ => by
    unfold roots
    rw [List.filter_eq_self.mpr fun x _ => by show decide (x = x) = true; simp]
    simp [kF]
  | e :: es, he => by
    have ih := roots_len (es := es) fun x hx => he x (List.mem_cons_of_mem _ hx)
    obtain ⟨h1, h2⟩ := he e List.mem_cons_self
    show ((List.range n).filter fun x => decide (mergeL (labF es) e x = x)).length + (es.length + 1) = n + (if labF es e.1 = labF es e.2 then kF es + 1 else kF es)
    unfold roots at ih
    have hll := lab_lab es
    have hle := lab_le es
    generalize labF es = lab at *
    by_cases hl : lab e.1 = lab e.2
    · have hmg : mergeL lab e = lab := by
        funext v
        unfold mergeL
        rw [hl, Nat.max_self, Nat.min_self]
        split
        · rename_i h; exact h.symm
        · rfl
      rw [hmg, if_pos hl]; omega
    · rw [if_neg hl]
      have hmx : lab (max (lab e.1) (lab e.2)) = max (lab e.1) (lab e.2) := by
        rcases Nat.le_total (lab e.1) (lab e.2) with q | q
        · rw [Nat.max_eq_right q, hll]
        · rw [Nat.max_eq_left q, hll]
      have hmn : min (lab e.1) (lab e.2) ≠ max (lab e.1) (lab e.2) := by
        rcases Nat.lt_or_gt_of_ne hl with q | q
        · rw [Nat.min_eq_left (Nat.le_of_lt q), Nat.max_eq_right (Nat.le_of_lt q)]; exact hl
        · rw [Nat.min_eq_right (Nat.le_of_lt q), Nat.max_eq_left (Nat.le_of_lt q)]; exact fun z => hl z.symm
      have := filter_minus (l := List.range n) (p := fun x => decide (lab x = x)) (q := fun x => decide (mergeL lab e x = x)) (a := max (lab e.1) (lab e.2)) List.nodup_range
        (List.mem_range.mpr (by have := hle e.1; have := hle e.2; omega)) (decide_eq_true hmx) (decide_eq_false (by unfold mergeL; rw [if_pos hmx]; exact hmn)) fun x _ hne => by
          unfold mergeL
          by_cases c : lab x = max (lab e.1) (lab e.2)
          · rw [if_pos c, decide_eq_false, decide_eq_false]
            · intro z; exact hne (by rw [← c, z])
            · intro z
              have : lab x = min (lab e.1) (lab e.2) := by
                rw [← z]
                rcases Nat.le_total (lab e.1) (lab e.2) with q | q
                · rw [Nat.min_eq_left q, hll]
                · rw [Nat.min_eq_right q, hll]
              exact hmn (this.symm.trans c)
          · rw [if_neg c]
      omega
end Eh

namespace Eh
open PySem PySem.Spec PyProof.Rows L2
abbrev lotN (xs : List Nat) : PyData := .tuple (xs.map iD)
section
variable {rt : PyData → Prop} {rn : List PyData → Prop} {er : XP} {d : PyData}
/-- lots -/
def lotGo (m : Int) : Int → List PyData → Bool
  | _, [] => true
  | least, x :: xs => ftB x least (m - 1) && lotGo m (match x with | .int i => i + 1 | _ => 0) xs
def lotB (d : PyData) (m : Int) : Bool := match d with | .tuple xs => lotGo m 0 xs | _ => false
theorem w_is_lot {m : Int} (h : rt (.bool (lotB d m))) : W_is_lot d (.int m) rt er := by
  unfold W_is_lot
  cases d with
  | tuple xs =>
    show forW (σ := PyData) _ _ xs (.int 0)
    have h' : rt (.bool (lotGo m 0 xs)) := h
    generalize (0 : Int) = least at h'
    clear h
    induction xs generalizing least with
    | nil => exact h'
    | cons x xs ih =>
      show W_is_from_to x (.int least) (.int (m - 1)) _ er
      refine w_is_from_to ?_
      unfold lotGo at h'
      show iteW (!ftB x least (m - 1)) (rt (.bool false)) _
      cases e : ftB x least (m - 1) with
      | false => rw [e] at h'; exact h'
      | true =>
        rw [e] at h'
        cases x with
        | int i => exact ih (i + 1) h'
        | _ => cases e
  | _ => exact h
theorem lotGo_nats {n : Nat} : ∀ {xs : List Nat} {least : Int}, (∀ x ∈ xs, least ≤ (x : Int) ∧ x < n) → xs.Pairwise (· < ·) → lotGo n least (xs.map iD) = true
  | [], _, _, _ => rfl
  | x :: xs, least, h, hp => by
    rw [List.pairwise_cons] at hp
    have h0 := h x List.mem_cons_self
    show ((decide (least ≤ (x : Int)) && decide ((x : Int) ≤ (n : Int) - 1)) && lotGo n ((x : Int) + 1) (xs.map iD)) = true
    rw [decide_eq_true h0.1, decide_eq_true (by omega), lotGo_nats (fun y hy => ⟨by have := hp.1 y hy; omega, (h y (List.mem_cons_of_mem _ hy)).2⟩) hp.2]; rfl
/-- a lot of worlds -/
def Lot (n : Nat) (xs : List Nat) : Prop := (∀ x ∈ xs, x < n) ∧ xs.Pairwise (· < ·)
theorem Lot.b {n : Nat} {xs : List Nat} (h : Lot n xs) : lotB (lotN xs) n = true := lotGo_nats (fun x hx => ⟨by omega, h.1 x hx⟩) h.2
theorem pw_range (n : Nat) : (List.range n).Pairwise (· < ·) := List.pairwise_lt_range
theorem lot_filter (n : Nat) (p : Nat → Bool) : Lot n ((List.range n).filter p) := ⟨fun x hx => List.mem_range.mp (List.mem_filter.mp hx).1, (pw_range n).filter p⟩
theorem Lot.filter {n : Nat} {xs : List Nat} (h : Lot n xs) (p : Nat → Bool) : Lot n (xs.filter p) := ⟨fun x hx => h.1 x (List.mem_filter.mp hx).1, h.2.filter p⟩
theorem pw_len {n : Nat} : ∀ {xs : List Nat} {a : Nat}, (∀ x ∈ xs, a ≤ x ∧ x < n) → xs.Pairwise (· < ·) → a ≤ n → xs.length + a ≤ n
  | [], a, _, _, h => by simpa using h
  | x :: xs, a, h, hp, ha => by
    rw [List.pairwise_cons] at hp
    have h0 := h x List.mem_cons_self
    have := pw_len (a := x + 1) (fun y hy => ⟨hp.1 y hy, (h y (List.mem_cons_of_mem _ hy)).2⟩) hp.2 (by omega)
    rw [List.length_cons]; omega
theorem Lot.len {n : Nat} {xs : List Nat} (h : Lot n xs) : xs.length ≤ n := pw_len (a := 0) (fun x hx => ⟨Nat.zero_le _, h.1 x hx⟩) h.2 (Nat.zero_le _)
end
theorem asc_unique : ∀ {xs ys : List Nat}, xs.Pairwise (· < ·) → ys.Pairwise (· < ·) → (∀ k, k ∈ xs ↔ k ∈ ys) → xs = ys
  | [], [], _, _, _ => rfl
  | [], y :: ys, _, _, h => absurd ((h y).mpr List.mem_cons_self) List.not_mem_nil
  | x :: xs, [], _, _, h => absurd ((h x).mp List.mem_cons_self) List.not_mem_nil
  | x :: xs, y :: ys, hx, hy, h => by
    rw [List.pairwise_cons] at hx hy
    have e : x = y := by
      rcases List.mem_cons.mp ((h x).mp List.mem_cons_self) with e | e
      · exact e
      · rcases List.mem_cons.mp ((h y).mpr List.mem_cons_self) with f | f
        · exact f.symm
        · have := hx.1 y f; have := hy.1 x e; omega
    subst e
    rw [asc_unique hx.2 hy.2 fun k => ⟨fun m => ?_, fun m => ?_⟩]
    · rcases List.mem_cons.mp ((h k).mp (List.mem_cons_of_mem _ m)) with e | e
      · have := hx.1 k m; omega
      · exact e
    · rcases List.mem_cons.mp ((h k).mpr (List.mem_cons_of_mem _ m)) with e | e
      · have := hy.1 k m; omega
      · exact e
theorem nodup_of_asc {xs : List Nat} (h : xs.Pairwise (· < ·)) : xs.Nodup := h.imp fun h => Nat.ne_of_lt h
/-- a row without repeats of numbers below n is no longer than n -/
theorem nodup_len : ∀ (n : Nat) {xs : List Nat}, xs.Nodup → (∀ x ∈ xs, x < n) → xs.length ≤ n
  | 0, [], _, _ => Nat.le_refl _
  | 0, x :: xs, _, h => absurd (h x List.mem_cons_self) (Nat.not_lt_zero _)
  | n + 1, xs, hn, h => by
    have h1 := nodup_len n (xs := xs.erase n) (hn.erase n) fun x hx => by
      have := h x (List.mem_of_mem_erase hx)
      have : x ≠ n := fun e => (List.Nodup.not_mem_erase hn) (e ▸ hx)
      omega
    by_cases hm : n ∈ xs
    · have h2 := List.length_erase_of_mem hm
      omega
    · rw [List.erase_of_not_mem hm] at h1
      omega

theorem w_check_group {rt : PyData → Prop} {er : XP} {d : PyData} {m : Int} (h1 : lotB d m = true → rt .none) (h2 : lotB d m = false → er "BadGroup" none) : W_check_group d (.int m) rt er := by
  unfold W_check_group
  exact w_is_lot (ite_ok (fun e => h2 (nt e)) fun e => h1 (nf e))
/-- a sorted row of the same numbers -/
theorem sort_ok {l : List Nat} {ys : List Nat} {k : List PyData → Prop} (hl : l.Nodup) (hy : ys.Pairwise (· < ·)) (hm : ∀ x, x ∈ l ↔ x ∈ ys) (hk : k (ys.map iD)) : sortW (l.map iD) k := by
  refine ⟨l.map fun x : Nat => (x : Int), by rw [List.map_map]; rfl, fun ms hp hs => ?_⟩
  have key : ms = ys.map fun x : Nat => (x : Int) := by
    have hpy : (ys.map fun x : Nat => (x : Int)).Perm (l.map fun x : Nat => (x : Int)) := List.Perm.map _ ((List.perm_ext_iff_of_nodup (nodup_of_asc hy) hl).mpr fun x => (hm x).symm)
    have hs2 : (ys.map fun x : Nat => (x : Int)).Pairwise (· ≤ ·) := List.pairwise_map.mpr (hy.imp fun h => by omega)
    exact List.Perm.eq_of_pairwise (le := (· ≤ ·)) (fun a b _ _ h1 h2 => Int.le_antisymm h1 h2) hs hs2 (hp.trans hpy.symm)
  rw [key, List.map_map]
  exact hk
end Eh

namespace Eh
open PySem PySem.Spec PyProof.Rows L2
/-! ### what k96 and k97 share: lots outside of a group, ways by coins -/
def hid (ts : List Edge) (g : List Nat) : List Edge := ts.filter fun p => !decide (p.1 ∈ g) && !decide (p.2 ∈ g)
def esR (ts : List Edge) (g : List Nat) : List Edge := (hid ts g).reverse
abbrev labT (ts : List Edge) (g : List Nat) : Nat → Nat := labF (esR ts g)
def cls (n : Nat) (lab : Nat → Nat) (x : Nat) : List Nat := (List.range n).filter fun v => decide (lab v = x)
def rootsG (n : Nat) (ts : List Edge) (g : List Nat) : List Nat := (roots n (esR ts g)).filter fun x => !decide (x ∈ g)
def lotsT (n : Nat) (ts : List Edge) (g : List Nat) : List (List Nat) := (rootsG n ts g).map (cls n (labT ts g))
section
variable {rt : PyData → Prop} {rn : List PyData → Prop} {er : XP} {d e f : PyData} {n m : Nat} {cs bs : List Nat} {ts : List Edge} {g : List Nat}
theorem mem_hid {e : Edge} : e ∈ hid ts g ↔ e ∈ ts ∧ e.1 ∉ g ∧ e.2 ∉ g := by
  unfold hid
  rw [List.mem_filter, Bool.and_eq_true, Bool.not_eq_true', Bool.not_eq_true', decide_eq_false_iff_not, decide_eq_false_iff_not]
theorem mem_es {e : Edge} : e ∈ esR ts g ↔ e ∈ ts ∧ e.1 ∉ g ∧ e.2 ∉ g := by unfold esR; rw [List.mem_reverse, mem_hid]
theorem es_lt (t : Ties n ts) : ∀ e ∈ esR ts g, e.1 < n ∧ e.2 < n := fun e he => by
  have := t.ok e (mem_es.mp he).1
  omega
theorem lab_g {x : Nat} (hx : x ∈ g) (v : Nat) : labT ts g v = x ↔ v = x := lab_alone (fun e he => ⟨fun z => (mem_es.mp he).2.1 (z ▸ hx), fun z => (mem_es.mp he).2.2 (z ▸ hx)⟩) v
theorem lab_out {v : Nat} (hv : v ∉ g) : labT ts g v ∉ g := fun h => hv (by have := (lab_g h v).mp rfl; rwa [← this] at h)
theorem mem_cls {lab : Nat → Nat} {x v : Nat} : v ∈ cls n lab x ↔ v < n ∧ lab v = x := by unfold cls; rw [List.mem_filter, List.mem_range, decide_eq_true_eq]
theorem cls_asc {lab : Nat → Nat} {x : Nat} : (cls n lab x).Pairwise (· < ·) := (pw_range n).filter _
theorem cls_lot {lab : Nat → Nat} {x : Nat} : Lot n (cls n lab x) := lot_filter n _
theorem w_hidden (t : Ties n ts) (h : rn ((hid ts g).map prD)) : W_hidden_edges (tiesD ts) (lotN g) rn er := by
  unfold W_hidden_edges
  have tl := t.len
  refine lc_ok prD prD (fun p => !decide (p.1 ∈ g) && !decide (p.2 ∈ g)) (by omega) (fun p hp Y N hY hN => ?_) h
  refine andI_ok (!decide (p.1 ∈ g)) (!decide (p.2 ∈ g)) (fun k hk => niN_ok hk) (fun _ k hk => niN_ok hk) (fun e1 e2 => ⟨by simp, hY ?_⟩) fun e => hN ?_
  · rw [e1, e2]; rfl
  · rcases e with e | e
    · rw [e, Bool.false_and]
    · rw [e, Bool.and_false]
theorem lab_lt (hv : m < n) : labT ts g m < n := Nat.lt_of_le_of_lt (lab_le _ _) hv
/-- a closed lot is the class -/
theorem closed_cls {lab : Nat → Nat} {es : List Edge} {x : Nat} {l : List Nat} (hlab : lab = labF es) (hx : x ∈ l) (hlx : lab x = x) (hl : ∀ v ∈ l, v < n ∧ lab v = x) (hc : ∀ e ∈ es, e.1 ∈ l ↔ e.2 ∈ l) : ∀ v, v ∈ l ↔ v ∈ cls n lab x := fun v => by
  rw [mem_cls]
  refine ⟨hl v, fun ⟨h1, h2⟩ => ?_⟩
  subst hlab
  exact (lab_inv (T := fun y => y ∈ l) hc x v (hlx.trans h2.symm)).mp hx
theorem w_lots_left (t : Ties n ts) (h6 : n ≤ 6) (h : rn ((lotsT n ts g).map lotN)) : W_lots_left (iD n) (tiesD ts) (lotN g) rn er := by
  unfold W_lots_left
  have hE := es_lt (g := g) t
  have hEd : ∀ e ∈ esR ts g, labT ts g e.1 = labT ts g e.2 := fun e he => lab_edge he
  refine rng_ok (by omega) (lc_ok iD iD (fun v => !decide (v ∈ g)) (by simp; omega) (fun v hv Y N h1 h2 => niN_ok (ite_ok h1 h2)) ?_)
  refine ⟨by simp, ?_⟩
  refine ⟨fun s => ∃ (done L : List Nat), s = (done.map (fun x => lotN (cls n (labT ts g) x)), .list (L.map iD)) ∧ L.Pairwise (· < ·) ∧ (∀ v ∈ L, v < n ∧ v ∉ g) ∧ (∀ u v, u < n → v < n → labT ts g u = labT ts g v → (u ∈ L ↔ v ∈ L)) ∧ done ++ L.filter (fun v => decide (labT ts g v = v)) = rootsG n ts g,
    fun s => match s.2 with | .list xs => xs.length | _ => 0, ⟨[], (List.range n).filter fun v => !decide (v ∈ g), rfl, (pw_range n).filter _, fun v hv => ?_, fun u v hu hv huv => ?_, ?_⟩, ?_⟩
  · rw [List.mem_filter, List.mem_range, Bool.not_eq_true', decide_eq_false_iff_not] at hv
    exact hv
  · have key := lab_inv (T := fun y => y ∈ g) (es := esR ts g) (fun e he => ⟨fun z => absurd z (mem_es.mp he).2.1, fun z => absurd z (mem_es.mp he).2.2⟩) u v huv
    rw [List.mem_filter, List.mem_filter, List.mem_range, List.mem_range, Bool.not_eq_true', Bool.not_eq_true', decide_eq_false_iff_not, decide_eq_false_iff_not]
    exact ⟨fun z => ⟨hv, fun c => z.2 (key.mpr c)⟩, fun z => ⟨hu, fun c => z.2 (key.mp c)⟩⟩
  · unfold rootsG roots
    rw [List.filter_filter, List.filter_filter, List.nil_append]
    exact List.filter_congr fun v _ => Bool.and_comm _ _
  rintro _ ⟨done, L, rfl, hL1, hL2, hL3, hL4⟩
  show iteW (decide ((0 : Int) < ((L.map iD).length : Nat))) _ _
  cases L with
  | nil =>
    refine iteF (by simp) ?_
    have : done = rootsG n ts g := by rw [← hL4]; simp
    rw [this]
    unfold lotsT at h
    rw [List.map_map] at h
    exact h
  | cons x L =>
    refine iteT (by simp) ?_
    obtain ⟨hxn, hxg⟩ := hL2 x List.mem_cons_self
    rw [List.pairwise_cons] at hL1
    have hlx : labT ts g x = x := by
      have h1 := (hL3 x (labT ts g x) hxn (lab_lt hxn) (lab_lab _ x).symm).mp List.mem_cons_self
      rcases List.mem_cons.mp h1 with e | e
      · exact e
      · have := hL1.1 _ e
        have := lab_le (esR ts g) x
        exact absurd this (by show ¬ labT ts g x ≤ x; omega)
    refine ix_ok (n := 0) rfl ⟨by simp, ?_⟩
    refine ⟨fun s => ∃ (l : List Nat) (a : Nat), s = (l.map iD, iD a) ∧ l.Nodup ∧ x ∈ l ∧ (∀ v ∈ l, v < n ∧ labT ts g v = x) ∧ a ≤ l.length ∧ ∀ k v, k < a → l[k]? = some v → ∀ e ∈ esR ts g, (e.1 = v → e.2 ∈ l) ∧ (e.2 = v → e.1 ∈ l),
      fun s => match s.2 with | .int a => n + 1 - a.toNat | _ => 0, ⟨[x], 0, rfl, by simp, List.mem_singleton.mpr rfl, fun v hv => by rw [List.mem_singleton.mp hv]; exact ⟨hxn, hlx⟩, Nat.zero_le _, fun k v hk => absurd hk (Nat.not_lt_zero _)⟩, ?_⟩
    rintro _ ⟨l, a, rfl, hl1, hl2, hl3, hl4, hl5⟩
    have hll : l.length ≤ n := nodup_len n hl1 fun v hv => (hl3 v hv).1
    show iteW (decide ((a : Int) < ((l.map iD).length : Nat))) _ _
    rw [List.length_map]
    refine ite_ok (fun hal => ?_) fun hal => ?_
    · have hal : a < l.length := by have := of_decide_eq_true hal; omega
      obtain ⟨va, hva⟩ : ∃ v, l[a]? = some v := ⟨_, List.getElem?_eq_getElem hal⟩
      refine w_hidden t ?_
      refine for_ok prD (fun i st => ∃ l2 : List Nat, st = l2.map iD ∧ l2.Nodup ∧ l <+: l2 ∧ (∀ v ∈ l2, v < n ∧ labT ts g v = x) ∧ ∀ e ∈ (hid ts g).take i, (e.1 = va → e.2 ∈ l2) ∧ (e.2 = va → e.1 ∈ l2)) ⟨l, rfl, hl1, List.prefix_refl l, hl3, fun e he => by simp at he⟩ ?_ ?_
      · rintro i p st hp ⟨l2, rfl, h21, h22, h23, h24⟩ nx bk hnx hbk
        have hpm := List.mem_of_getElem? hp
        have hpe : p ∈ esR ts g := by unfold esR; rw [List.mem_reverse]; exact hpm
        have hpn := hE p hpe
        have hpl := hEd p hpe
        have hpne : p.1 ≠ p.2 := by have := t.ok p (mem_es.mp hpe).1; omega
        have hl2len : l2.length ≤ n := nodup_len n h21 fun v hv => (h23 v hv).1
        have hva2 : l2[a]? = some va := by
          obtain ⟨r, rfl⟩ := h22
          rw [List.getElem?_append_left hal]; exact hva
        have hvx := h23 va (List.mem_of_getElem? hva2)
        have step : ∀ l3 : List Nat, l3.Nodup → l2 <+: l3 → (∀ v ∈ l3, v < n ∧ labT ts g v = x) → ((p.1 = va → p.2 ∈ l3) ∧ (p.2 = va → p.1 ∈ l3)) → nx (l3.map iD) := fun l3 h31 h32 h33 h34 => hnx _ ⟨l3, rfl, h31, h22.trans h32, h33, fun e he => by
          rw [List.take_add_one, hp] at he
          rcases List.mem_append.mp he with he | he
          · exact ⟨fun z => h32.subset ((h24 e he).1 z), fun z => h32.subset ((h24 e he).2 z)⟩
          · have : e = p := by simpa using he
            rw [this]; exact h34⟩
        refine ix_ok (by rw [List.getElem?_map, hva2]; rfl) ⟨by simp, ?_⟩
        refine inN_ok (ns := [p.1, p.2]) (ite_ok (fun hin => ?_) fun hin => ?_)
        · have hin : va ∈ [p.1, p.2] := of_decide_eq_true hin
          refine ⟨by simp, ?_⟩
          refine lc_ok (xs := [p.1, p.2]) iD iD (fun v => !decide (v ∈ l2)) (by simp) (fun v hv Y N h1 h2 => niN_ok (ite_ok h1 h2)) ?_
          refine ⟨?_, ?_⟩
          · have := List.length_filter_le (fun v => !decide (v ∈ l2)) [p.1, p.2]
            rw [List.length_map, List.length_map]
            simp at this ⊢
            omega
          · rw [← List.map_append]
            have hpx : labT ts g p.1 = x ∧ labT ts g p.2 = x := by
              rcases List.mem_cons.mp hin with e | e
              · rw [← e]; exact ⟨hvx.2, by rw [← hpl, ← e]; exact hvx.2⟩
              · have e := List.mem_singleton.mp e
                rw [← e]; exact ⟨by rw [hpl, ← e]; exact hvx.2, hvx.2⟩
            refine step _ (List.nodup_append.mpr ⟨h21, (List.Pairwise.filter _ (show ([p.1, p.2] : List Nat).Nodup by simpa using hpne)), fun u hu v hv => ?_⟩) (List.prefix_append _ _) (fun v hv => ?_) ?_
            · rintro rfl
              rw [List.mem_filter, Bool.not_eq_true', decide_eq_false_iff_not] at hv
              exact hv.2 hu
            · rcases List.mem_append.mp hv with hv | hv
              · exact h23 v hv
              · rcases List.mem_cons.mp (List.mem_filter.mp hv).1 with e | e
                · rw [e]; exact ⟨hpn.1, hpx.1⟩
                · rw [List.mem_singleton.mp e]; exact ⟨hpn.2, hpx.2⟩
            · have both : ∀ v ∈ [p.1, p.2], v ∈ l2 ++ [p.1, p.2].filter fun v => !decide (v ∈ l2) := fun v hv => by
                by_cases c : v ∈ l2
                · exact List.mem_append_left _ c
                · exact List.mem_append_right _ (List.mem_filter.mpr ⟨hv, by rw [decide_eq_false c]; rfl⟩)
              exact ⟨fun _ => both _ (by simp), fun _ => both _ (by simp)⟩
        · have hin : va ∉ [p.1, p.2] := of_decide_eq_false hin
          exact step l2 h21 (List.prefix_refl _) h23 ⟨fun z => absurd (by rw [z]; simp) hin, fun z => absurd (by rw [z]; simp) hin⟩
      · rintro st ⟨l2, rfl, h21, h22, h23, h24⟩
        rw [List.take_length] at h24
        have hpl := h22.length_le
        have hl2len : l2.length ≤ n := nodup_len n h21 fun v hv => (h23 v hv).1
        refine ⟨⟨l2, a + 1, rfl, h21, h22.subset hl2, h23, by omega, fun k v hk hv e he => ?_⟩, ?_⟩
        · have hek : e ∈ hid ts g := by unfold esR at he; exact List.mem_reverse.mp he
          have hlk : l[k]? = some v := by
            obtain ⟨r, rfl⟩ := h22
            rwa [List.getElem?_append_left (by omega)] at hv
          rcases Nat.lt_or_eq_of_le (Nat.lt_succ_iff.mp hk) with hk | rfl
          · have := hl5 k v hk hlk e he
            exact ⟨fun z => h22.subset (this.1 z), fun z => h22.subset (this.2 z)⟩
          · rw [hva] at hlk
            cases hlk
            exact h24 e hek
        · show n + 1 - ((a : Int) + 1).toNat < n + 1 - ((a : Int)).toNat
          omega
    · have hal : a = l.length := by have := of_decide_eq_false hal; omega
      have hcl : ∀ e ∈ esR ts g, e.1 ∈ l ↔ e.2 ∈ l := fun e he => by
        constructor
        · intro z
          obtain ⟨k, hk, ek⟩ := List.getElem_of_mem z
          exact (hl5 k e.1 (by omega) (by rw [List.getElem?_eq_getElem hk, ek]) e he).1 rfl
        · intro z
          obtain ⟨k, hk, ek⟩ := List.getElem_of_mem z
          exact (hl5 k e.2 (by omega) (by rw [List.getElem?_eq_getElem hk, ek]) e he).2 rfl
      have hcls := closed_cls (n := n) (lab := labT ts g) rfl hl2 hlx hl3 hcl
      refine sort_ok hl1 cls_asc hcls ?_
      have hdl : done.length + 1 ≤ n := by
        have h1 : (rootsG n ts g).length ≤ n := by
          unfold rootsG roots
          have a1 := List.length_filter_le (fun x => !decide (x ∈ g)) ((List.range n).filter fun x => decide (labF (esR ts g) x = x))
          have a2 := List.length_filter_le (fun x => decide (labF (esR ts g) x = x)) (List.range n)
          rw [List.length_range] at a2
          omega
        have h2 := congrArg List.length hL4
        rw [List.length_append, List.filter_cons, if_pos (decide_eq_true hlx), List.length_cons] at h2
        omega
      refine ⟨by rw [List.length_map]; omega, ?_⟩
      have hLl : (x :: L).length ≤ n := nodup_len n (nodup_of_asc (List.pairwise_cons.mpr hL1)) fun v hv => (hL2 v hv).1
      refine lc_ok (xs := x :: L) iD iD (fun v => !decide (v ∈ l)) (by omega) (fun v hv Y N h1 h2 => niN_ok (ite_ok h1 h2)) ?_
      refine ⟨⟨done ++ [x], (x :: L).filter fun v => !decide (v ∈ l), ?_, (List.pairwise_cons.mpr hL1).filter _, fun v hv => hL2 v (List.mem_filter.mp hv).1, fun u v hu hv huv => ?_, ?_⟩, ?_⟩
      · rw [List.map_append]; rfl
      · rw [List.mem_filter, List.mem_filter]
        have h1 := hL3 u v hu hv huv
        have h2 : (u ∈ l) ↔ (v ∈ l) := by rw [hcls u, hcls v, mem_cls, mem_cls, huv]; exact ⟨fun z => ⟨hv, z.2⟩, fun z => ⟨hu, z.2⟩⟩
        rw [h1, show decide (u ∈ l) = decide (v ∈ l) from decide_eq_decide.mpr h2]
      · rw [← hL4, List.append_assoc]
        congr 1
        rw [List.filter_cons, if_neg (by rw [decide_eq_true hl2]; exact Bool.false_ne_true), List.filter_cons, if_pos (decide_eq_true hlx), List.filter_filter]
        show x :: _ = x :: _
        congr 1
        refine List.filter_congr fun v hv => ?_
        by_cases c : labT ts g v = v
        · have : v ∉ l := fun z => by
            have := (hl3 v z).2
            have := hL1.1 v hv
            omega
          rw [decide_eq_true c, decide_eq_false this]; rfl
        · rw [decide_eq_false c]; rfl
      · show ((((x :: L).filter fun v => !decide (v ∈ l)).map iD).length) < ((x :: L).map iD).length
        rw [List.length_map, List.length_map, List.filter_cons, if_neg (by rw [decide_eq_true hl2]; exact Bool.false_ne_true), List.length_cons]
        exact Nat.lt_succ_of_le (List.length_filter_le _ _)
end
end Eh

namespace Eh
open PySem PySem.Spec PyProof.Rows L2
/-! numbers as masks -/
theorem or_small : ∀ a, a < 64 → ∀ b, b < 64 → a ||| b = (a &&& b) + (a ^^^ b) := by decide +kernel
theorem bxor_nat {a b : Nat} (ha : a < 64) (hb : b < 64) : Builtin.bitXor (a : Int) (b : Int) = ((a ^^^ b : Nat) : Int) := by
  have e1 : Builtin.bitOr (a : Int) (b : Int) = ((a ||| b : Nat) : Int) := by
    unfold Builtin.bitOr Builtin.bitAnd Builtin.bitNot
    have h1 : decide ((0 : Int) ≤ -(a : Int) - 1) = false := decide_eq_false (by omega)
    have h2 : decide ((0 : Int) ≤ -(b : Int) - 1) = false := decide_eq_false (by omega)
    rw [h1, h2]
    show -(-((((-(-(a : Int) - 1) - 1).toNat ||| (-(-(b : Int) - 1) - 1).toNat : Nat)) : Int) - 1) - 1 = _
    rw [show (-(-(a : Int) - 1) - 1).toNat = a by omega, show (-(-(b : Int) - 1) - 1).toNat = b by omega]
    omega
  have e2 : Builtin.bitAnd (a : Int) (b : Int) = ((a &&& b : Nat) : Int) := rfl
  unfold Builtin.bitXor
  rw [e1, e2, or_small a ha b hb]
  omega
theorem bor_nat {a b : Nat} : Builtin.bitOr (a : Int) (b : Int) = ((a ||| b : Nat) : Int) := by
  unfold Builtin.bitOr Builtin.bitAnd Builtin.bitNot
  have h1 : decide ((0 : Int) ≤ -(a : Int) - 1) = false := decide_eq_false (by omega)
  have h2 : decide ((0 : Int) ≤ -(b : Int) - 1) = false := decide_eq_false (by omega)
  rw [h1, h2]
  show -(-((((-(-(a : Int) - 1) - 1).toNat ||| (-(-(b : Int) - 1) - 1).toNat : Nat)) : Int) - 1) - 1 = _
  rw [show (-(-(a : Int) - 1) - 1).toNat = a by omega, show (-(-(b : Int) - 1) - 1).toNat = b by omega]
  omega
theorem pow64 {n m : Nat} (h : m < 2 ^ n) (h6 : n ≤ 6) : m < 64 := Nat.lt_of_lt_of_le h (Nat.pow_le_pow_right (by decide) h6)
theorem shl1_ok {i : Nat} {k : DP} (hi : i ≤ 100) (hk : k (iD (2 ^ i))) : shlW (.int 1) (iD i) k := by
  refine ⟨⟨by omega, by omega, by decide⟩, ?_⟩
  show k (.int (1 * 2 ^ ((i : Nat) : Int).toNat))
  rw [Int.toNat_natCast, Int.one_mul]
  exact_mod_cast hk

theorem bor_ok {a b c : Nat} {k : DP} (h : a ||| b = c) (hk : k (iD c)) : borW (iD a) (iD b) k := by
  show k (.int (Builtin.bitOr (a : Int) (b : Int)))
  rw [bor_nat, h]; exact hk
theorem bxor_ok {a b : Nat} {k : DP} (ha : a < 64) (hb : b < 64) (hk : k (iD (a ^^^ b))) : bxorW (iD a) (iD b) k := by
  show k (.int (Builtin.bitXor (a : Int) (b : Int)))
  rw [bxor_nat ha hb]; exact hk
theorem dget_ok {kvs : List (Int × Int)} {m : Nat} {v : Nat} {k : DP} (h : (valI kvs (m : Int)).getD 0 = (v : Int)) (hk : k (iD v)) : dgetW kvs (iD m) (.int 0) k := by
  show k (.int ((valI kvs (m : Int)).getD 0))
  rw [h]; exact hk
theorem addN_ok {a b : Nat} {k : DP} (hk : k (iD (a + b))) : addW (iD a) (iD b) k := by
  show k (.int ((a : Int) + (b : Int)))
  rw [show (a : Int) + (b : Int) = ((a + b : Nat) : Int) by omega]; exact hk
theorem or_pow : ∀ i, i < 6 → ∀ j, j < 6 → i ≠ j → 2 ^ i ||| 2 ^ j = 2 ^ i ^^^ 2 ^ j := by decide
theorem xor_eq {a b m : Nat} : a ^^^ b = m ↔ a = m ^^^ b := ⟨fun h => by rw [← h, Nat.xor_assoc, Nat.xor_self, Nat.xor_zero], fun h => by rw [h, Nat.xor_assoc, Nat.xor_self, Nat.xor_zero]⟩
/-! counts -/
structure Cn (n : Nat) (c : Nat → Nat) (ps : List (Nat × Nat)) : Prop where
  nd : (ps.map (·.1)).Nodup
  ok : ∀ p ∈ ps, p.1 < 2 ^ n ∧ c p.1 = p.2 ∧ 0 < p.2
  all : ∀ m, m < 2 ^ n → c m ≠ 0 → m ∈ ps.map (·.1)
abbrev kN (ps : List (Nat × Nat)) : List (Int × Int) := ps.map fun p => ((p.1 : Int), (p.2 : Int))
theorem val_kN (ps : List (Nat × Nat)) (m : Nat) : valI (kN ps) m = (ps.find? fun p => decide (p.1 = m)).map fun p => (p.2 : Int) := by
  unfold valI
  induction ps with
  | nil => rfl
  | cons p ps ih =>
    rw [show kN (p :: ps) = ((p.1 : Int), (p.2 : Int)) :: kN ps from rfl, List.find?_cons, List.find?_cons]
    rw [show decide ((((p.1 : Int), (p.2 : Int)) : Int × Int).1 = (m : Int)) = decide (p.1 = m) from decide_eq_decide.mpr Int.ofNat_inj]
    cases decide (p.1 = m) with
    | true => rfl
    | false => exact ih
theorem Cn.val {n : Nat} {c : Nat → Nat} {ps : List (Nat × Nat)} (h : Cn n c ps) {m : Nat} (hm : m < 2 ^ n) : valI (kN ps) m = if c m = 0 then none else some (c m : Int) := by
  rw [val_kN]
  cases e : ps.find? fun p => decide (p.1 = m) with
  | none =>
    rw [List.find?_eq_none] at e
    have : c m = 0 := by
      by_cases z : c m = 0
      · exact z
      · obtain ⟨p, hp, e2⟩ := List.mem_map.mp (h.all m hm z)
        exact absurd (decide_eq_true e2) (e p hp)
    rw [if_pos this]; rfl
  | some p =>
    have hp := List.mem_of_find?_eq_some e
    have e2 := of_decide_eq_true (List.find?_some (p := fun p : Nat × Nat => decide (p.1 = m)) e)
    obtain ⟨h1, h2, h3⟩ := h.ok p hp
    rw [e2] at h2
    rw [if_neg (by omega), h2]; rfl
theorem Cn.getD {n : Nat} {c : Nat → Nat} {ps : List (Nat × Nat)} (h : Cn n c ps) {m : Nat} (hm : m < 2 ^ n) : (valI (kN ps) m).getD 0 = (c m : Int) := by
  rw [h.val hm]
  by_cases z : c m = 0
  · rw [if_pos z, z]; rfl
  · rw [if_neg z]; rfl
theorem Cn.congr {n : Nat} {c d : Nat → Nat} {ps : List (Nat × Nat)} (h : Cn n c ps) (e : ∀ m, m < 2 ^ n → c m = d m) : Cn n d ps :=
  ⟨h.nd, fun p hp => by obtain ⟨h1, h2, h3⟩ := h.ok p hp; exact ⟨h1, (e _ h1).symm.trans h2, h3⟩, fun m hm hd => h.all m hm (by rw [e m hm]; exact hd)⟩
theorem Cn.len {n : Nat} {c : Nat → Nat} {ps : List (Nat × Nat)} (h : Cn n c ps) (h6 : n ≤ 6) : ps.length ≤ 64 := by
  have := nodup_len (2 ^ n) h.nd fun m hm => by
    obtain ⟨p, hp, rfl⟩ := List.mem_map.mp hm
    exact (h.ok p hp).1
  rw [List.length_map] at this
  exact Nat.le_trans this (Nat.pow_le_pow_right (by decide) h6)
def putN (ps : List (Nat × Nat)) (k v : Nat) : List (Nat × Nat) := if (ps.any fun p => decide (p.1 = k)) = true then ps.map (fun p => if p.1 = k then (p.1, v) else p) else ps ++ [(k, v)]
theorem put_kN (ps : List (Nat × Nat)) (k v : Nat) : putI (kN ps) k v = kN (putN ps k v) := by
  have e1 : ((kN ps).any fun p => decide (p.1 = (k : Int))) = ps.any fun p => decide (p.1 = k) := by
    show (List.map _ ps).any _ = _
    rw [List.any_map]
    exact congrArg (fun f => List.any ps f) (funext fun p => decide_eq_decide.mpr Int.ofNat_inj)
  unfold putI putN
  rw [e1]
  split
  · show (List.map _ ps).map _ = (List.map _ ps).map _
    rw [List.map_map, List.map_map]
    refine List.map_congr_left fun p _ => ?_
    show (if (p.1 : Int) = (k : Int) then ((p.1 : Int), (v : Int)) else ((p.1 : Int), (p.2 : Int))) = (((if p.1 = k then (p.1, v) else p).1 : Int), ((if p.1 = k then (p.1, v) else p).2 : Int))
    by_cases e : p.1 = k
    · rw [if_pos e, if_pos (by rw [e])]
    · rw [if_neg e, if_neg (fun z => e (Int.ofNat_inj.mp z))]
  · show _ = (ps ++ [(k, v)]).map _
    rw [List.map_append]; rfl
theorem Cn.put {n : Nat} {c : Nat → Nat} {ps : List (Nat × Nat)} (h : Cn n c ps) {k v : Nat} (hk : k < 2 ^ n) (hv : 0 < v) : Cn n (fun m => if m = k then v else c m) (putN ps k v) := by
  unfold putN
  by_cases e : (ps.any fun p => decide (p.1 = k)) = true
  · rw [if_pos e]
    have em : (ps.map fun p => if p.1 = k then (p.1, v) else p).map (·.1) = ps.map (·.1) := by
      rw [List.map_map]
      refine List.map_congr_left fun p _ => ?_
      show (if p.1 = k then (p.1, v) else p).1 = p.1
      split <;> rfl
    refine ⟨by rw [em]; exact h.nd, fun p hp => ?_, fun m hm hc => ?_⟩
    · obtain ⟨q, hq, rfl⟩ := List.mem_map.mp hp
      obtain ⟨h1, h2, h3⟩ := h.ok q hq
      by_cases c1 : q.1 = k
      · rw [if_pos c1]; exact ⟨h1, if_pos c1, hv⟩
      · rw [if_neg c1]; exact ⟨h1, (if_neg c1).trans h2, h3⟩
    · rw [em]
      by_cases c1 : m = k
      · subst c1
        obtain ⟨p, hp, e2⟩ := List.any_eq_true.mp e
        exact List.mem_map.mpr ⟨p, hp, of_decide_eq_true e2⟩
      · exact h.all m hm (by rw [if_neg c1] at hc; exact hc)
  · rw [if_neg e]
    have hne : k ∉ ps.map (·.1) := fun z => e (by
      obtain ⟨p, hp, e2⟩ := List.mem_map.mp z
      exact List.any_eq_true.mpr ⟨p, hp, decide_eq_true e2⟩)
    refine ⟨?_, fun p hp => ?_, fun m hm hc => ?_⟩
    · rw [List.map_append]
      refine List.nodup_append.mpr ⟨h.nd, by simp, fun a ha b hb => ?_⟩
      have : b = k := by simpa using hb
      rintro rfl
      exact hne (this ▸ ha)
    · rcases List.mem_append.mp hp with hp | hp
      · obtain ⟨h1, h2, h3⟩ := h.ok p hp
        have : p.1 ≠ k := fun z => hne (List.mem_map.mpr ⟨p, hp, z⟩)
        exact ⟨h1, (if_neg this).trans h2, h3⟩
      · rw [List.mem_singleton.mp hp]; exact ⟨hk, if_pos rfl, hv⟩
    · rw [List.map_append]
      by_cases c1 : m = k
      · exact List.mem_append_right _ (by rw [c1]; simp)
      · exact List.mem_append_left _ (h.all m hm (by rw [if_neg c1] at hc; exact hc))
/-- what the keys so far give -/
def acc (b : Nat) : List (Nat × Nat) → Nat → Nat
  | [], _ => 0
  | p :: ps, m => acc b ps m + (if p.1 = m then p.2 else 0) + (if p.1 ^^^ b = m then p.2 else 0)
theorem acc_out {b m : Nat} : ∀ {ps : List (Nat × Nat)}, m ∉ ps.map (·.1) → m ^^^ b ∉ ps.map (·.1) → acc b ps m = 0
  | [], _, _ => rfl
  | p :: ps, h1, h2 => by
    rw [List.map_cons, List.mem_cons, not_or] at h1 h2
    show acc b ps m + (if p.1 = m then p.2 else 0) + (if p.1 ^^^ b = m then p.2 else 0) = 0
    rw [acc_out h1.2 h2.2, if_neg (fun z => h1.1 z.symm), if_neg (fun z => h2.1 (xor_eq.mp z).symm)]
def pick (m : Nat) : List (Nat × Nat) → Nat
  | [] => 0
  | p :: ps => pick m ps + (if p.1 = m then p.2 else 0)
theorem acc_pick (b m : Nat) : ∀ ps : List (Nat × Nat), acc b ps m = pick m ps + pick (m ^^^ b) ps
  | [] => rfl
  | p :: ps => by
    show acc b ps m + (if p.1 = m then p.2 else 0) + (if p.1 ^^^ b = m then p.2 else 0) = (pick m ps + (if p.1 = m then p.2 else 0)) + (pick (m ^^^ b) ps + (if p.1 = m ^^^ b then p.2 else 0))
    rw [acc_pick b m ps]
    have : (if p.1 ^^^ b = m then p.2 else 0) = (if p.1 = m ^^^ b then p.2 else 0) := by
      by_cases z : p.1 ^^^ b = m
      · rw [if_pos z, if_pos (xor_eq.mp z)]
      · rw [if_neg z, if_neg fun y => z (xor_eq.mpr y)]
    omega
theorem pick_none {m : Nat} : ∀ {ps : List (Nat × Nat)}, m ∉ ps.map (·.1) → pick m ps = 0
  | [], _ => rfl
  | p :: ps, h => by
    rw [List.map_cons, List.mem_cons, not_or] at h
    show pick m ps + (if p.1 = m then p.2 else 0) = 0
    rw [pick_none h.2, if_neg fun z => h.1 z.symm]
theorem pick_val {m : Nat} : ∀ {ps : List (Nat × Nat)}, (ps.map (·.1)).Nodup → ∀ p ∈ ps, p.1 = m → pick m ps = p.2
  | [], _, p, hp, _ => absurd hp List.not_mem_nil
  | q :: ps, hn, p, hp, e => by
    rw [List.map_cons, List.nodup_cons] at hn
    show pick m ps + (if q.1 = m then q.2 else 0) = p.2
    rcases List.mem_cons.mp hp with rfl | hp
    · rw [if_pos e, pick_none (e ▸ hn.1), Nat.zero_add]
    · rw [pick_val hn.2 p hp e, if_neg fun z => hn.1 (List.mem_map.mpr ⟨p, hp, e.trans z.symm⟩), Nat.add_zero]
theorem Cn.pick {n : Nat} {c : Nat → Nat} {ps : List (Nat × Nat)} (h : Cn n c ps) {m : Nat} (hm : m < 2 ^ n) : pick m ps = c m := by
  by_cases z : m ∈ ps.map (·.1)
  · obtain ⟨p, hp, e⟩ := List.mem_map.mp z
    rw [pick_val h.nd p hp e, ← (h.ok p hp).2.1, e]
  · rw [pick_none z]
    by_cases y : c m = 0
    · exact y.symm
    · exact absurd (h.all m hm y) z
section
variable {rt : PyData → Prop} {rn : List PyData → Prop} {er : XP} {d e f : PyData} {n m : Nat} {cs bs : List Nat} {ts : List Edge} {g : List Nat}
abbrev ctD (ps : List (Nat × Nat)) : PyData := .dict (eD (kN ps))
theorem ct_ok {ps : List (Nat × Nat)} {k : List (Int × Int) → Prop} (hk : k (kN ps)) : dctW (ctD ps) k := ⟨_, rfl, hk⟩
theorem acc_snoc (b m : Nat) (p : Nat × Nat) : ∀ ps : List (Nat × Nat), acc b (ps ++ [p]) m = acc b ps m + (if p.1 = m then p.2 else 0) + (if p.1 ^^^ b = m then p.2 else 0)
  | [] => rfl
  | q :: ps => by
    show acc b (ps ++ [p]) m + _ + _ = (acc b ps m + _ + _) + _ + _
    rw [acc_snoc b m p ps]; omega
theorem w_law_ways (t : Ties n ts) (h6 : n ≤ 6) (h : ∀ ps, Cn n (cnt (esR ts g)) ps → rt (ctD ps)) : W__law_ways (tiesD ts) (lotN g) rt er := by
  unfold W__law_ways
  show forW _ _ (ts.map prD) _
  refine for_ok prD (fun i st => ∃ ps, st = ctD ps ∧ Cn n (cnt (esR (ts.take i) g)) ps) ⟨[(0, 1)], rfl, ?_⟩ ?_ ?_
  · refine ⟨by simp, fun p hp => ?_, fun m hm hc => ?_⟩
    · rw [List.mem_singleton.mp hp]; exact ⟨Nat.pow_pos (by decide), rfl, by decide⟩
    · have : m = 0 := by
        by_cases z : m = 0
        · exact z
        · exact absurd (show cnt (esR (ts.take 0) g) m = 0 from if_neg z) hc
      rw [this]; simp
  · rintro i e st he ⟨ps, rfl, hps⟩ nx bk hnx hbk
    have hem := List.mem_of_getElem? he
    have heo := t.ok e hem
    have htk : ts.take (i + 1) = ts.take i ++ [e] := by rw [List.take_add_one, he]; rfl
    refine orI_ok (decide (e.1 ∈ g)) (decide (e.2 ∈ g)) (fun k hk => ix_ok (n := 0) rfl (inN_ok hk)) (fun _ k hk => ix_ok (n := 1) rfl (inN_ok hk)) (fun hin => ?_) fun ha hb => ?_
    · refine hnx _ ⟨ps, rfl, ?_⟩
      have : esR (ts.take (i + 1)) g = esR (ts.take i) g := by
        unfold esR hid
        rw [htk, List.filter_append, List.filter_cons, if_neg (by
          rw [Bool.and_eq_true, Bool.not_eq_true', Bool.not_eq_true', decide_eq_false_iff_not, decide_eq_false_iff_not]
          intro z
          rcases hin with c | c
          · exact z.1 (of_decide_eq_true c)
          · exact z.2 (of_decide_eq_true c)), List.filter_nil, List.append_nil]
      rw [this]; exact hps
    · have hes : esR (ts.take (i + 1)) g = e :: esR (ts.take i) g := by
        unfold esR hid
        rw [htk, List.filter_append, List.filter_cons, if_pos (by rw [ha, hb]; rfl), List.filter_nil, List.reverse_append]; rfl
      have hb1 : both e < 2 ^ n := both_lt (by omega) heo.2
      refine ix_ok (n := 0) rfl (shl1_ok (by omega) (ix_ok (n := 1) rfl (shl1_ok (by omega) (bor_ok (c := both e) (or_pow _ (by omega) _ (by omega) (by omega)) ?_))))
      refine ct_ok ?_
      show forW _ _ ((kN ps).map fun p => .int p.1) []
      rw [show ((kN ps).map fun p => PyData.int p.1) = ps.map fun p => iD p.1 by rw [List.map_map]; rfl]
      have h64 : both e < 64 := pow64 hb1 h6
      refine for_ok (fun p : Nat × Nat => iD p.1) (fun j st => ∃ qs, st = kN qs ∧ Cn n (acc (both e) (ps.take j)) qs) ⟨[], rfl, by simp, fun p hp => absurd hp List.not_mem_nil, fun m _ hc => absurd rfl hc⟩ ?_ ?_
      · rintro j p st hp ⟨qs, rfl, hqs⟩ nx' bk' hnx' hbk'
        have hpm := List.mem_of_getElem? hp
        obtain ⟨p1, p2, p3⟩ := hps.ok p hpm
        have p64 := pow64 p1 h6
        have hql := hqs.len h6
        have hval : valI (kN ps) ((p.1 : Nat) : Int) = some (p.2 : Int) := by rw [hps.val p1, if_neg (by omega), p2]
        have hx1 : p.1 ^^^ both e < 2 ^ n := Nat.xor_lt_two_pow p1 hb1
        refine dget_ok (hqs.getD p1) (ct_ok ⟨_, hval, addN_ok ?_⟩)
        refine ⟨by rw [List.length_map]; omega, ?_⟩
        rw [put_kN]
        have hq1 := hqs.put p1 (v := acc (both e) (ps.take j) p.1 + p.2) (by omega)
        have hq1l := hq1.len h6
        refine bxor_ok p64 h64 (dget_ok (hq1.getD hx1) (ct_ok ⟨_, hval, addN_ok (bxor_ok p64 h64 ?_)⟩))
        generalize hv : (if p.1 ^^^ both e = p.1 then acc (both e) (ps.take j) p.1 + p.2 else acc (both e) (ps.take j) (p.1 ^^^ both e)) = v
        refine ⟨by rw [List.length_map]; omega, ?_⟩
        rw [put_kN]
        have hq2 := hq1.put hx1 (v := v + p.2) (by omega)
        refine hnx' _ ⟨_, rfl, hq2.congr fun m hm => ?_⟩
        rw [List.take_add_one, hp]
        show _ = acc (both e) (ps.take j ++ [p]) m
        rw [acc_snoc]
        have q1 : (if p.1 = m then p.2 else 0) = if m = p.1 then p.2 else 0 := by
          by_cases c : m = p.1
          · rw [if_pos c, if_pos c.symm]
          · rw [if_neg c, if_neg fun z => c z.symm]
        have q2 : (if p.1 ^^^ both e = m then p.2 else 0) = if m = p.1 ^^^ both e then p.2 else 0 := by
          by_cases c : m = p.1 ^^^ both e
          · rw [if_pos c, if_pos c.symm]
          · rw [if_neg c, if_neg fun z => c z.symm]
        rw [q1, q2]
        by_cases c1 : m = p.1 ^^^ both e
        · rw [if_pos c1, if_pos c1]
          by_cases c2 : m = p.1
          · rw [if_pos c2, ← hv, if_pos (c1.symm.trans c2), c2]
          · rw [if_neg c2, ← hv, if_neg fun z => c2 (c1.trans z), ← c1, Nat.add_zero]
        · rw [if_neg c1, if_neg c1, Nat.add_zero]
          by_cases c2 : m = p.1
          · rw [if_pos c2, if_pos c2, c2]
          · rw [if_neg c2, if_neg c2, Nat.add_zero]
      · rintro st ⟨qs, rfl, hqs⟩
        rw [List.take_length] at hqs
        refine hnx _ ⟨qs, rfl, ?_⟩
        rw [hes]
        refine hqs.congr fun m hm => ?_
        rw [acc_pick, hps.pick hm, hps.pick (Nat.xor_lt_two_pow hm hb1)]; rfl
  · rintro st ⟨ps, rfl, hps⟩
    rw [List.take_length] at hps
    exact h ps hps
end
end Eh

namespace Eh
open PySem PySem.Spec PyProof.Rows L2
def bitsN (n m : Nat) : List Nat := (List.range n).map (bt m)
theorem bitsN_ok (n m : Nat) : Bits n (bitsN n m) := ⟨by unfold bitsN; rw [List.length_map, List.length_range], fun b hb => by
  obtain ⟨v, _, rfl⟩ := List.mem_map.mp hb
  exact bt_lt m v⟩
theorem bitsN_at {n m v : Nat} (h : v < n) : (bitsN n m).getD v 0 = bt m v := by
  unfold bitsN
  rw [List.getD_eq_getElem?_getD, List.getElem?_map, List.getElem?_range h]; rfl
theorem bit_at {w : List Nat} {i : Nat} (h : i < w.length) : (w.map iD)[i]? = some (iD (w.getD i 0)) := by rw [List.getElem?_map, getD_some h]; rfl
theorem bt_div (m k : Nat) : m / 2 ^ k % 2 = bt m k := by
  unfold bt
  rw [Nat.testBit_eq_decide_div_mod_eq]
  have : m / 2 ^ k % 2 < 2 := Nat.mod_lt _ (by decide)
  by_cases c : m / 2 ^ k % 2 = 1
  · rw [decide_eq_true c, c]; rfl
  · rw [decide_eq_false c]
    show _ = 0
    omega
theorem bits_eqv : ∀ (xs ys : List Nat), PyData.eqvAll (xs.map iD) (ys.map iD) = decide (xs = ys)
  | [], [] => rfl
  | [], y :: ys => rfl
  | x :: xs, [] => rfl
  | x :: xs, y :: ys => by
    show (((x : Int) == (y : Int)) && PyData.eqvAll (xs.map iD) (ys.map iD)) = _
    rw [bits_eqv xs ys]
    by_cases h : x = y
    · subst h
      rw [beq_self_eq_true, Bool.true_and]
      exact decide_eq_decide.mpr ⟨fun z => by rw [z], fun z => (List.cons.inj z).2⟩
    · rw [beq_eq_false_iff_ne.mpr (by omega : (x : Int) ≠ y), Bool.false_and, decide_eq_false fun z => h (List.cons.inj z).1]
theorem shd_lst (w : List Nat) : ShD 1 (.list (w.map iD)) := shD_list fun d hd => by
  obtain ⟨x, _, rfl⟩ := List.mem_map.mp hd
  exact shD_int _
theorem eqL_ok {xs ys : List Nat} {k : DP} (hk : k (.bool (decide (xs = ys)))) : eqW (.list (xs.map iD)) (.list (ys.map iD)) k := ⟨(shd_lst xs).sh (by decide), (shd_lst ys).sh (by decide), by
  show k (.bool (PyData.eqvAll (xs.map iD) (ys.map iD)))
  rw [bits_eqv]; exact hk⟩
theorem neL_ok {xs ys : List Nat} {k : DP} (hk : k (.bool (!decide (xs = ys)))) : neW (.list (xs.map iD)) (.list (ys.map iD)) k := ⟨(shd_lst xs).sh (by decide), (shd_lst ys).sh (by decide), by
  show k (.bool (!PyData.eqvAll (xs.map iD) (ys.map iD)))
  rw [bits_eqv]; exact hk⟩
theorem sum_int (w : List Nat) : (w.map fun x : Nat => (x : Int)).sum = (w.sum : Nat) := by
  induction w with
  | nil => rfl
  | cons x w ih => rw [List.map_cons, List.sum_cons, List.sum_cons, ih]; omega
theorem sumN_ok {w : List Nat} {k : DP} (h : k (iD w.sum)) : sumW (w.map iD) k := sum_ok (f := fun x : Nat => (x : Int)) (by rw [sum_int]; exact h)
theorem p2 : (0 : Int) < 2 := by decide
theorem mod2_ok {a : Nat} {k : DP} (h : k (iD (a % 2))) : modW (iD a) (.int 2) k := ⟨p2, by
  show k (.int ((a : Int) % 2))
  rw [show (a : Int) % 2 = ((a % 2 : Nat) : Int) by omega]; exact h⟩
section
variable {rt : PyData → Prop} {rn : List PyData → Prop} {er : XP} {d e f : PyData} {n m a b : Nat} {cs bs w : List Nat} {ts : List Edge} {g : List Nat}
theorem w_law_bits (h6 : n ≤ 6) (h : rn ((bitsN n m).map iD)) : W__law_bits (iD m) (iD n) rn er := by
  unfold W__law_bits
  refine rng_ok (by omega) (lcM_ok iD (fun k => iD (bt m k)) (by simp; omega) (fun k hk Y hY => ?_) (by unfold bitsN at h; rw [List.map_map] at h; exact h))
  refine ⟨by omega, ?_⟩
  show Y (.int (Builtin.bitAnd ((m : Int) / 2 ^ ((k : Nat) : Int).toNat) 1))
  rw [bitAnd_m1, Int.toNat_natCast]
  have : ((m : Int) / 2 ^ k) % 2 = ((m / 2 ^ k % 2 : Nat) : Int) := by push_cast; rfl
  rw [this, bt_div]; exact hY
def sumsN (n : Nat) (ts : List Edge) (g : List Nat) (w : List Nat) : List Nat := (lotsT n ts g).map fun l => (l.map fun p => w.getD p 0).sum % 2
theorem lots_len (h6 : n ≤ 6) : (lotsT n ts g).length ≤ 6 ∧ ∀ l ∈ lotsT n ts g, l.length ≤ 6 ∧ ∀ v ∈ l, v < n := by
  unfold lotsT rootsG roots
  refine ⟨?_, fun l hl => ?_⟩
  · rw [List.length_map]
    have a1 := List.length_filter_le (fun x => !decide (x ∈ g)) ((List.range n).filter fun x => decide (labF (esR ts g) x = x))
    have a2 := List.length_filter_le (fun x => decide (labF (esR ts g) x = x)) (List.range n)
    rw [List.length_range] at a2
    omega
  · obtain ⟨x, _, rfl⟩ := List.mem_map.mp hl
    have := (cls_lot (n := n) (lab := labT ts g) (x := x)).len
    exact ⟨by omega, fun v hv => (mem_cls.mp hv).1⟩
theorem w_sums_of (h6 : n ≤ 6) (hd : BitsD w d) (hw : w.length = n) (h : rn ((sumsN n ts g w).map iD)) : W_sums_of (.list ((lotsT n ts g).map lotN)) d rn er := by
  unfold W_sums_of
  obtain ⟨h1, h2⟩ := lots_len (n := n) (ts := ts) (g := g) h6
  refine lcM_ok lotN (fun l => iD ((l.map fun p => w.getD p 0).sum % 2)) (by omega) (fun l hl Y hY => ?_) (by unfold sumsN at h; rw [List.map_map] at h; exact h)
  obtain ⟨h3, h4⟩ := h2 l hl
  refine lcM_ok iD (fun p => iD (w.getD p 0)) (by omega) (fun p hp Y2 hY2 => hd.seq (ix_ok (bit_at (by rw [hw]; exact h4 p hp)) hY2)) ?_
  have e : (l.map fun p => iD (w.getD p 0)) = (l.map fun p => w.getD p 0).map iD := by rw [List.map_map]; rfl
  rw [e]
  exact sumN_ok (mod2_ok hY)
theorem sums_pr : sumsN n ts g (bitsN n m) = (rootsG n ts g).map fun x => Pr n (labT ts g) m x := by
  unfold sumsN lotsT
  rw [List.map_map]
  refine List.map_congr_left fun x _ => ?_
  show ((cls n (labT ts g) x).map fun p => (bitsN n m).getD p 0).sum % 2 = Pr n (labT ts g) m x
  rw [show ((cls n (labT ts g) x).map fun p => (bitsN n m).getD p 0) = (cls n (labT ts g) x).map (bt m) from List.map_congr_left fun p hp => bitsN_at (mem_cls.mp hp).1]
  unfold cls Pr
  rw [S_filter, S_congr (g := fun v => if labT ts g v = x then bt m v else 0) fun v _ => ?_]
  by_cases c : labT ts g v = x
  · rw [if_pos (decide_eq_true c), if_pos c]
  · rw [if_neg (fun z => c (of_decide_eq_true z)), if_neg c]
/-- alike for the group -/
def sameB (n : Nat) (ts : List Edge) (g : List Nat) (a b : Nat) : Bool := !(g.any fun p => !decide (bt a p = bt b p)) && decide (sumsN n ts g (bitsN n a) = sumsN n ts g (bitsN n b))
theorem pr_g (hg : ∀ x ∈ g, x < n) {x : Nat} (hx : x ∈ g) : Pr n (labT ts g) m x = bt m x := by
  unfold Pr
  rw [S_one (hg x hx) fun v _ hne => if_neg fun z => hne ((lab_g hx v).mp z), if_pos ((lab_g hx x).mpr rfl)]
  exact Nat.mod_eq_of_lt (bt_lt m x)
theorem pr_none {r : Nat} (h : ¬ (r < n ∧ labT ts g r = r)) : Pr n (labT ts g) m r = 0 := by
  unfold Pr
  rw [S_zero fun v hv => if_neg fun z => h ?_]
  subst z
  exact ⟨lab_lt hv, lab_lab _ v⟩
theorem same_ev (hg : ∀ x ∈ g, x < n) : sameB n ts g a b = true ↔ Ev n (labT ts g) (a ^^^ b) := by
  unfold sameB
  rw [sums_pr, sums_pr, Bool.and_eq_true, Bool.not_eq_true', List.any_eq_false, decide_eq_true_eq, List.map_inj_left]
  have hx : ∀ r, Pr n (labT ts g) (a ^^^ b) r = 0 ↔ Pr n (labT ts g) a r = Pr n (labT ts g) b r := fun r => by
    rw [Pr_xor]
    have := Pr_bd n (labT ts g) a r
    have := Pr_bd n (labT ts g) b r
    omega
  constructor
  · rintro ⟨h1, h2⟩ r
    rw [hx]
    by_cases c : r < n ∧ labT ts g r = r
    · by_cases c2 : r ∈ g
      · rw [pr_g hg c2, pr_g hg c2]
        have := h1 r c2
        rw [Bool.not_eq_true, Bool.not_eq_false', decide_eq_true_eq] at this
        exact this
      · exact h2 r (by unfold rootsG roots; rw [List.mem_filter, List.mem_filter, List.mem_range]; exact ⟨⟨c.1, decide_eq_true c.2⟩, by rw [decide_eq_false c2]; rfl⟩)
    · rw [pr_none c, pr_none c]
  · intro h
    refine ⟨fun r hr => ?_, fun r _ => (hx r).mp (h r)⟩
    have := (hx r).mp (h r)
    rw [pr_g hg hr, pr_g hg hr] at this
    rw [Bool.not_eq_true, Bool.not_eq_false', decide_eq_true_eq]
    exact this
theorem len_split (p : Nat → Bool) : ∀ l : List Nat, (l.filter p).length + (l.filter fun x => !p x).length = l.length
  | [] => rfl
  | x :: l => by
    have := len_split p l
    rw [List.filter_cons, List.filter_cons, List.length_cons]
    cases h : p x with
    | true => simp; omega
    | false => simp; omega
theorem expo (t : Ties n ts) (hg : Lot n g) : (hid ts g).length + g.length + (lotsT n ts g).length = n + kF (esR ts g) := by
  have h1 := roots_len (n := n) (es := esR ts g) (es_lt t)
  have h2 := len_split (fun x => decide (x ∈ g)) (roots n (esR ts g))
  have h3 : (roots n (esR ts g)).filter (fun x => decide (x ∈ g)) = g := asc_unique (((pw_range n).filter _).filter _) hg.2 fun x => by
    unfold roots
    rw [List.mem_filter, List.mem_filter, List.mem_range, decide_eq_true_eq, decide_eq_true_eq]
    exact ⟨fun z => z.2, fun z => ⟨⟨hg.1 x z, (lab_g z x).mpr rfl⟩, z⟩⟩
  rw [h3] at h2
  have h4 : (lotsT n ts g).length = ((roots n (esR ts g)).filter fun x => !decide (x ∈ g)).length := by unfold lotsT rootsG; rw [List.length_map]
  have h5 : (esR ts g).length = (hid ts g).length := by unfold esR; rw [List.length_reverse]
  omega
theorem w_group (hg : Lot n g) (h : rt .none) : W_check_group (lotN g) (iD n) rt er := w_check_group (fun _ => h) fun e => by rw [hg.b] at e; cases e
theorem any_diff (hg : ∀ x ∈ g, x < n) (hd : BitsD (bitsN n a) d) (he : BitsD (bitsN n b) e) (h6 : g.length ≤ 100) {k : Bool → Prop} (hk : k (g.any fun p => !decide (bt a p = bt b p))) :
    seqW (lotN g) fun l1 => lcMW l1 (fun person Y => seqW d fun l2 => ixW l2 person fun t5 => seqW e fun l3 => ixW l3 person fun t6 => neW t5 t6 fun t7 => Y t7) fun l4 => anyW l4 fun t8 => boolW t8 fun b1 => k b1 := by
  refine lcM_ok iD (fun p => .bool (!decide (bt a p = bt b p))) (by omega) (fun p hp Y hY => ?_) (any_ok hk)
  have hl : ∀ m, (bitsN n m).length = n := fun m => (bitsN_ok n m).1
  refine hd.seq (ix_ok (bit_at (by rw [hl]; exact hg p hp)) (he.seq (ix_ok (bit_at (by rw [hl]; exact hg p hp)) ?_)))
  rw [bitsN_at (hg p hp), bitsN_at (hg p hp)]
  exact neN_ok hY
theorem w_same_for (t : Ties n ts) (hg : Lot n g) (h2 : 2 ≤ n) (h6 : n ≤ 6) {W : PyData → PyData → PyData → PyData → PyData → (PyData → Prop) → XP → Prop}
    (hW : ∀ n edges group one other rt er, W n edges group one other rt er = (W_check_round n edges (fun t1 => W_check_group group n (fun t2 => W_check_bits one n (fun t3 => W_check_bits other n (fun t4 => seqW group fun l1 => lcMW l1 (fun person Y => seqW one fun l2 => ixW l2 person fun t5 => seqW other fun l3 => ixW l3 person fun t6 => neW t5 t6 fun t7 => Y t7) fun l4 => anyW l4 fun t8 => boolW t8 fun b1 => iteW b1 (rt (.bool false)) (W_lots_left n edges group (fun l5 => fzW l5 fun lots => W_sums_of lots one (fun l6 => fzW l6 fun t10 => W_sums_of lots other (fun l7 => fzW l7 fun t11 => eqW t10 t11 fun t12 => rt t12) er) er) er)) er) er) er) er))
    (hd : BitsD (bitsN n a) d) (he : BitsD (bitsN n b) e) (h : rt (.bool (sameB n ts g a b))) : W (iD n) (tiesD ts) (lotN g) d e rt er := by
  rw [hW]
  have gl := hg.len
  refine w_round h2 h6 t (w_group hg (w_check_bits hd (bitsN_ok n a) (by omega) (w_check_bits he (bitsN_ok n b) (by omega) (any_diff hg.1 hd he (by omega) ?_))))
  unfold sameB at h
  refine ite_ok (fun c => by rw [c] at h; exact h) fun c => ?_
  rw [c] at h
  exact w_lots_left t h6 (w_sums_of h6 hd (bitsN_ok n a).1 (w_sums_of h6 he (bitsN_ok n b).1 (eqL_ok h)))
theorem w_ways_said (t : Ties n ts) (hg : Lot n g) (h2 : 2 ≤ n) (h6 : n ≤ 6) (hd : BitsD (bitsN n a) d) (he : BitsD (bitsN n b) e) (h : rt (iD (if sameB n ts g a b = true then 2 ^ kF (esR ts g) else 0))) : W_ways_said (iD n) (tiesD ts) (lotN g) d e rt er := by
  unfold W_ways_said
  have gl := hg.len
  refine w_round h2 h6 t (w_group hg (w_check_bits hd (bitsN_ok n a) (by omega) (w_check_bits he (bitsN_ok n b) (by omega) (any_diff hg.1 hd he (by omega) ?_))))
  refine ite_ok (fun c => ?_) fun c => ?_
  · have : sameB n ts g a b = false := by unfold sameB; rw [c]; rfl
    rw [this] at h; exact h
  refine w_lots_left t h6 (w_sums_of h6 hd (bitsN_ok n a).1 (w_sums_of h6 he (bitsN_ok n b).1 (neL_ok (ite_ok (fun c2 => ?_) fun c2 => ?_))))
  · have : sameB n ts g a b = false := by unfold sameB; rw [nt c2, Bool.and_false]
    rw [this] at h; exact h
  have hs : sameB n ts g a b = true := by unfold sameB; rw [c, nf c2]; rfl
  rw [if_pos hs] at h
  have hx := expo t hg
  have tl := t.len
  have hkl : kF (esR ts g) ≤ 100 := by
    have := (lots_len (n := n) (ts := ts) (g := g) h6).1
    have : (hid ts g).length ≤ ts.length := List.length_filter_le _ _
    omega
  refine w_hidden t ?_
  show rngW (.int (((((hid ts g).map prD).length : Nat) : Int) - ((n : Int) - ((g.map iD).length : Nat)) + (((lotsT n ts g).map lotN).length : Nat))) _
  rw [List.length_map, List.length_map, List.length_map, show (((hid ts g).length : Nat) : Int) - ((n : Int) - (g.length : Nat)) + ((lotsT n ts g).length : Nat) = ((kF (esR ts g) : Nat) : Int) by omega]
  refine rng_ok (by omega) (for_ok iD (fun i st => st = iD (2 ^ i)) rfl ?_ ?_)
  · rintro i x st hx rfl nx bk hnx hbk
    refine ⟨.inl ⟨by decide, by decide⟩, hnx _ ?_⟩
    show PyData.int (2 * ((2 ^ i : Nat) : Int)) = .int ((2 ^ (i + 1) : Nat) : Int)
    rw [Nat.pow_succ]
    congr 1
    push_cast
    omega
  · rintro st rfl
    rw [List.length_range]; exact h
end
end Eh

namespace Eh
open PySem PySem.Spec PyProof.Rows L2
section
variable {rt : PyData → Prop} {rn : List PyData → Prop} {er : XP} {d e f : PyData} {n m a b : Nat} {cs bs w : List Nat} {ts : List Edge} {g : List Nat}
theorem w_law_group (h2 : 2 ≤ n) (h6 : n ≤ 6) (h : ∀ g, Lot n g → rt (lotN g)) : W__law_group (iD n) rt er := by
  unfold W__law_group
  refine w_take (m := 6) (by decide) (by decide) fun shape hs => ?_
  refine eqI_ok (ite_ok (fun _ => ⟨by decide, h [] ⟨fun x hx => absurd hx List.not_mem_nil, List.Pairwise.nil⟩⟩) fun _ => ?_)
  refine eqI_ok (ite_ok (fun _ => rgL_ok (by omega) (h _ ⟨fun x hx => List.mem_range.mp hx, pw_range n⟩)) fun _ => ?_)
  refine mod2_ok ?_
  refine rng_ok (by omega) (lc_any iD iD (fun _ _ => True) (by simp; omega) List.nodup_range (fun x hx Y N h1 h2 => ?_) fun p _ => h _ (lot_filter n p))
  show W__law_take (.int (2 + ((shape % 2 : Nat) : Int))) _ _
  rw [show (2 + ((shape % 2 : Nat) : Int)) = ((2 + shape % 2 : Nat) : Int) by omega]
  exact w_take (by omega) (by omega) fun _ _ => eqI_ok (ite_ok (fun _ => h1 trivial) fun _ => h2 trivial)
theorem lotGo_end {m : Int} {x : PyData} : ∀ {xs : List PyData} {least : Int}, lotGo m least (xs ++ [x]) = true → ∃ l, ftB x l (m - 1) = true
  | [], least, h => by
    have h' : (ftB x least (m - 1) && lotGo m _ []) = true := h
    rw [Bool.and_eq_true] at h'
    exact ⟨least, h'.1⟩
  | y :: xs, least, h => by
    have h' : (ftB y least (m - 1) && lotGo m _ (xs ++ [x])) = true := h
    rw [Bool.and_eq_true] at h'
    exact lotGo_end h'.2
theorem lot_two {x y : Int} (h : ¬ (0 ≤ x ∧ x < y ∧ y < n)) : lotB (.tuple [.int x, .int y]) n = false := by
  show ((decide (0 ≤ x) && decide (x ≤ (n : Int) - 1)) && ((decide (x + 1 ≤ y) && decide (y ≤ (n : Int) - 1)) && true)) = false
  by_cases c1 : 0 ≤ x
  · by_cases c2 : x + 1 ≤ y
    · have c3 : ¬ y ≤ (n : Int) - 1 := fun c3 => h ⟨c1, by omega, by omega⟩
      rw [decide_eq_false c3, Bool.and_false, Bool.false_and, Bool.and_false]
    · rw [decide_eq_false c2, Bool.false_and, Bool.false_and, Bool.and_false]
  · rw [decide_eq_false c1]; rfl
theorem w_bad_group (hg : Lot n g) (h6 : n ≤ 6) (h : ∀ d, lotB d n = false → rt d) : W__law_bad_group (iD n) (lotN g) rt er := by
  have gl := hg.len
  have hend : ∀ xs : List PyData, lotB (.tuple (xs ++ [iD n])) n = false := fun xs => by
    cases e : lotB (.tuple (xs ++ [iD n])) n with
    | false => rfl
    | true =>
      obtain ⟨l, hl⟩ := lotGo_end (m := n) (x := iD n) e
      have hl' : (decide (l ≤ (n : Int)) && decide ((n : Int) ≤ (n : Int) - 1)) = true := hl
      rw [Bool.and_eq_true, decide_eq_true_eq, decide_eq_true_eq] at hl'
      omega
  unfold W__law_bad_group
  refine w_take (m := 10) (by decide) (by decide) fun kind hk => ?_
  refine eqI_ok (ite_ok (fun _ => h _ rfl) fun h0 => ?_)
  have h0 : (kind : Int) ≠ 0 := of_decide_eq_false h0
  refine ite_ok (fun e => ?_) fun e => ?_
  · have e : (kind : Int) < 4 := of_decide_eq_true e
    refine ⟨by simp, ⟨by simp, ?_⟩⟩
    obtain ⟨q, rfl⟩ : ∃ q, kind = q + 1 := ⟨kind - 1, by omega⟩
    show ixW _ (.int (((q + 1 : Nat) : Int) - 1)) _
    rw [show (((q + 1 : Nat) : Int) - 1) = ((q : Nat) : Int) by omega]
    match q, e with
    | 0, _ => exact ix_ok (n := 0) rfl (h _ rfl)
    | 1, _ => exact ix_ok (n := 1) rfl (h _ rfl)
    | 2, _ => exact ix_ok (n := 2) rfl (h _ (hend []))
    | q + 3, e => exact absurd e (by omega)
  have e : ¬ (kind : Int) < 4 := of_decide_eq_false e
  refine ite_ok (fun e2 => ?_) fun e2 => ?_
  · have e2 : (kind : Int) < 7 := of_decide_eq_true e2
    refine ⟨by simp, ⟨by simp, ⟨by simp, ⟨by simp, ?_⟩⟩⟩⟩
    obtain ⟨q, rfl⟩ : ∃ q, kind = q + 4 := ⟨kind - 4, by omega⟩
    show ixW _ (.int (((q + 4 : Nat) : Int) - 4)) _
    rw [show (((q + 4 : Nat) : Int) - 4) = ((q : Nat) : Int) by omega]
    match q, e2 with
    | 0, _ => exact ix_ok (n := 0) rfl (h _ (lot_two (x := 0 - 1) (by omega)))
    | 1, _ => exact ix_ok (n := 1) rfl (h _ rfl)
    | 2, _ => exact ix_ok (n := 2) rfl (h _ (lot_two (x := 1) (y := 0) (by omega)))
    | q + 3, e => exact absurd e (by omega)
  · have e2 : ¬ (kind : Int) < 7 := of_decide_eq_false e2
    refine ⟨by simp, ⟨by simp, ⟨by simp, ⟨by simp; omega, ⟨by simp, ?_⟩⟩⟩⟩⟩
    obtain ⟨q, rfl⟩ : ∃ q, kind = q + 7 := ⟨kind - 7, by omega⟩
    show ixW _ (.int (((q + 7 : Nat) : Int) - 7)) _
    rw [show (((q + 7 : Nat) : Int) - 7) = ((q : Nat) : Int) by omega]
    match q, hk with
    | 0, _ => exact ix_ok (n := 0) rfl (h _ (lot_two (x := 0) (y := 0) (by omega)))
    | 1, _ => exact ix_ok (n := 1) rfl (h _ rfl)
    | 2, _ => exact ix_ok (n := 2) rfl (h _ (hend _))
    | q + 3, e => exact absurd e (by omega)
end
end Eh

namespace Eh
open PySem PySem.Spec PyProof.Rows L2
variable {A : Str → Addr} {K : PySem.W.Frag} {w : World}
def xn : List Str := ["JointError", "BadGroup", "BadTable", "BadText", "BadNumber", "BadWorlds", "BadSteps", "BadCalls", "BadDeals", "NotThere", "TooLarge", "NothingDone", "BadRow", "BadLine"]
abbrev N__law_way_fits : List Str := ["pool", "n", "ties", "group", "secrets", "words", "due", "handed", "told", "shape", "found"]
def t__law_way_fits (K : PySem.W.Frag) (w : World) (sp__law_same : Sp) (sp__law_take : Sp) (sp_ways_said : Sp) (E : XK) : TS :=
  (tSeq (tAsg (tCB (rListA K) (tCons (tVar 4) tNil)) (gName 7))
    (tSeq (tAsg (tCB (rListA K) (tCons (tVar 5) tNil)) (gName 8))
    (tSeq (tAsg (tCall sp__law_take [] E (tCons (tVar 0) (tCons (tC (.int 3)) tNil))) (gName 9))
    (tSeq (tIfS (tTest (tOp (rEqA K) (tVar 9) (tC (.int 0)))) (tAsg (tCall sp_ways_said [] E (tCons (tVar 1) (tCons (tVar 2) (tCons (tVar 3) (tCons (tVar 7) (tCons (tThen (tVar 5) (kTup K)) tNil)))))) (gName 10)) (tIfS (tTest (tOp (rEqA K) (tVar 9) (tC (.int 1)))) (tAsg (tCall sp_ways_said [] E (tCons (tVar 1) (tCons (tVar 2) (tCons (tVar 3) (tCons (tThen (tVar 4) (kTup K)) (tCons (tVar 8) tNil)))))) (gName 10)) (tAsg (tCall sp_ways_said [] E (tCons (tVar 1) (tCons (tVar 2) (tCons (tVar 3) (tCons (tVar 7) (tCons (tVar 8) tNil)))))) (gName 10))))
    (tRet (tAndV (tOp (rEqA K) (tVar 7) (tVar 4)) (tAndV (tOp (rEqA K) (tVar 8) (tVar 5)) (tCall sp__law_same [] E (tCons (tVar 10) (tCons (tVar 6) tNil))))))))))
@[irreducible] def W__law_way_fits (n : PyData) (ties : PyData) (group : PyData) (secrets : PyData) (words : PyData) (due : PyData) (rt : PyData → Prop) (er : XP) : Prop :=
  seqW secrets fun l1 => fzW l1 fun handed => seqW words fun l2 => fzW l2 fun told => W__law_take (.int 3) (fun shape => joinW (fun k1 => eqW shape (.int 0) fun t4 => boolW t4 fun b1 => iteW b1 (seqW words fun l3 => tupW l3 fun t6 => W_ways_said n ties group handed t6 (fun found2 => k1 found2) er) (eqW shape (.int 1) fun t7 => boolW t7 fun b2 => iteW b2 (seqW secrets fun l4 => tupW l4 fun t9 => W_ways_said n ties group t9 told (fun found3 => k1 found3) er) (W_ways_said n ties group handed told (fun found4 => k1 found4) er))) fun found => andVW (fun k4 => eqW handed secrets fun t11 => k4 t11) (fun k5 => andVW (fun k2 => eqW told words fun t12 => k2 t12) (fun k3 => W__law_same 9 found due (fun t13 => k3 t13) er) fun t14 => k5 t14) fun t15 => rt t15) er
theorem P__law_way_fits (vs : List V) (H : Hp) (Q : VK) (E : XK) (h : spP A Pl (vl6 W__law_way_fits) vs H Q E) : t__law_way_fits K w (spF A (vl2 (W__law_same 9))) (spP A Pl (vl1 W__law_take)) (spF A (vl5 W_ways_said)) E { nx := fun _ H' => Q .non H', rt := Q } (L2.start N__law_way_fits vs) H :=
  spP_body (N := N__law_way_fits) (t := fun E => t__law_way_fits K w (spF A (vl2 (W__law_same 9))) (spP A Pl (vl1 W__law_take)) (spF A (vl5 W_ways_said)) E) h fun C hF ds rt er B F0 D hW hr hx hn => by
    obtain ⟨n, ties, group, secrets, words, due, rfl, h⟩ := vl6_inv hW
    unfold W__law_way_fits at h
    show At C B F0 [.pool, .dat n, .dat ties, .dat group, .dat secrets, .dat words, .dat due, .no, .no, .no, .no] (t__law_way_fits K w (spF A (vl2 (W__law_same 9))) (spP A Pl (vl1 W__law_take)) (spF A (vl5 W_ways_said)) E D)
    refine aw_seq ?_
    refine aw_asg (Γ' := fun handed => [.pool, .dat n, .dat ties, .dat group, .dat secrets, .dat words, .dat due, .dat handed, .no, .no, .no]) (fun _ => rfl) (Nw.fz (nw_list (Ew.s (ew_var rfl)))) (RaiseW.tt0 hx) h (fun handed h => ?_)
    refine aw_seq ?_
    refine aw_asg (Γ' := fun told => [.pool, .dat n, .dat ties, .dat group, .dat secrets, .dat words, .dat due, .dat handed, .dat told, .no, .no]) (fun _ => rfl) (Nw.fz (nw_list (Ew.s (ew_var rfl)))) (RaiseW.tt0 hx) h (fun told h => ?_)
    refine aw_seq ?_
    refine aw_asg (Γ' := fun shape => [.pool, .dat n, .dat ties, .dat group, .dat secrets, .dat words, .dat due, .dat handed, .dat told, .dat shape, .no]) (fun _ => rfl) (ew_callP hF rfl (aw_cons ew_int aw_nil)) (RaiseW.tt0 hx) h (fun shape h => ?_)
    refine aw_join (J := fun (k : PyData → Prop) Z => ∀ found, k found → At C B F0 [.pool, .dat n, .dat ties, .dat group, .dat secrets, .dat words, .dat due, .dat handed, .dat told, .dat shape, .dat found] Z) h (fun found h => ?_) (fun k' hk h => ?_)
    · exact aw_ret hr (ew_andV (ew_op ov_eq (ew_var rfl) (ew_var rfl)) (ew_andV (ew_op ov_eq (ew_var rfl) (ew_var rfl)) (ew_call (aw_cons (ew_var rfl) (aw_cons (ew_var rfl) aw_nil))))) (RaiseW.tt0 hx) h
    · refine aw_if (tw_test (ew_op ov_eq (ew_var rfl) ew_int)) (RaiseW.tt0 hx) h (fun h => ?_) (fun h => ?_)
      · refine aw_asg (Γ' := fun found2 => [.pool, .dat n, .dat ties, .dat group, .dat secrets, .dat words, .dat due, .dat handed, .dat told, .dat shape, .dat found2]) (fun _ => rfl) (ew_call (aw_cons (ew_var rfl) (aw_cons (ew_var rfl) (aw_cons (ew_var rfl) (aw_cons (ew_var rfl) (aw_cons (ew_tupleD (ew_var rfl)) aw_nil)))))) (RaiseW.tt0 hx) h (fun found2 h => ?_)
        exact at_wk (.keep (.keep (.keep (.keep (.keep (.keep (.keep (.keep (.keep (.keep (.keep .nil))))))))))) (hk _ h)
      · refine aw_if (tw_test (ew_op ov_eq (ew_var rfl) ew_int)) (RaiseW.tt0 hx) h (fun h => ?_) (fun h => ?_)
        · refine aw_asg (Γ' := fun found3 => [.pool, .dat n, .dat ties, .dat group, .dat secrets, .dat words, .dat due, .dat handed, .dat told, .dat shape, .dat found3]) (fun _ => rfl) (ew_call (aw_cons (ew_var rfl) (aw_cons (ew_var rfl) (aw_cons (ew_var rfl) (aw_cons (ew_tupleD (ew_var rfl)) (aw_cons (ew_var rfl) aw_nil)))))) (RaiseW.tt0 hx) h (fun found3 h => ?_)
          exact at_wk (.keep (.keep (.keep (.keep (.keep (.keep (.keep (.keep (.keep (.keep (.keep .nil))))))))))) (hk _ h)
        · refine aw_asg (Γ' := fun found4 => [.pool, .dat n, .dat ties, .dat group, .dat secrets, .dat words, .dat due, .dat handed, .dat told, .dat shape, .dat found4]) (fun _ => rfl) (ew_call (aw_cons (ew_var rfl) (aw_cons (ew_var rfl) (aw_cons (ew_var rfl) (aw_cons (ew_var rfl) (aw_cons (ew_var rfl) aw_nil)))))) (RaiseW.tt0 hx) h (fun found4 h => ?_)
          exact at_wk (.keep (.keep (.keep (.keep (.keep (.keep (.keep (.keep (.keep (.keep (.keep .nil))))))))))) (hk _ h)
abbrev N__law_all_words_fit : List Str := ["pool", "n", "ties", "group", "secrets", "counts", "total", "mask", "due", "unseen", "pair"]
def t__law_all_words_fit (K : PySem.W.Frag) (w : World) (sp__law_bits : Sp) (sp__law_mask : Sp) (sp__law_way_fits : Sp) (E : XK) : TS :=
  (tSeq (tAsg (tC (.int 0)) (gName 6))
    (tSeq (tFor (iRng1 (tCons (tOp rShlI (tC (.int 1)) (tVar 1)) tNil)) (gName 7) (tSeq (tAsg (tDGet2 (tVar 5) (tOp rXorI (tVar 7) (tCall sp__law_mask [] E (tCons (tVar 4) tNil))) (tC (.int 0))) (gName 8))
    (tSeq (tAsg (tOp (rAddA K) (tVar 6) (tVar 8)) (gName 6))
    (tIfS (tNot (tB (tCall sp__law_way_fits [] E (tCons (tVar 0) (tCons (tVar 1) (tCons (tVar 2) (tCons (tVar 3) (tCons (tVar 4) (tCons (tCall sp__law_bits [] E (tCons (tVar 7) (tCons (tVar 1) tNil))) (tCons (tVar 8) tNil)))))))))) (tRet (tC (.bl false))) tNext))))
    (tSeq (tAsg (tLc (iSeq K (tVar 2)) (gName 10) (tAnd (tTest (tOp (rNiA K) (tOp (rIx K) (tVar 10) (tC (.int 0))) (tVar 3))) (tTest (tOp (rNiA K) (tOp (rIx K) (tVar 10) (tC (.int 1))) (tVar 3)))) (tVar 10) [10]) (gName 9))
    (tRet (tOp (rEqA K) (tVar 6) (tOp rShlI (tC (.int 1)) (tCB (rLenA K) (tCons (tVar 9) tNil))))))))
@[irreducible] def W__law_all_words_fit (n : PyData) (ties : PyData) (group : PyData) (secrets : PyData) (counts : PyData) (rt : PyData → Prop) (er : XP) : Prop :=
  letW (.int 0) fun total => shlW (.int 1) n fun t2 => rngW t2 fun it1 => forW (σ := PyData) (fun mask s nx bk => dctW counts fun kv => W__law_mask secrets (fun t3 => bxorW mask t3 fun t4 => dgetW kv t4 (.int 0) fun due => addW s due fun total2 => W__law_bits mask n (fun l1 => fzW l1 fun t8 => W__law_way_fits n ties group secrets t8 due (fun t7 => boolW t7 fun b1 => iteW (!b1) (rt (.bool false)) (nx total2)) er) er) er) (fun s => seqW ties fun l2 => lcW l2 (fun pair Y N => andW (fun k1 => seqW pair fun l3 => ixW l3 (.int 0) fun t9 => seqW group fun l4 => niW t9 l4 fun t10 => boolW t10 fun b2 => k1 b2) (fun k2 => seqW pair fun l5 => ixW l5 (.int 1) fun t11 => seqW group fun l6 => niW t11 l6 fun t12 => boolW t12 fun b3 => k2 b3) fun b4 => iteW b4 (Y pair) N) fun l7 => fzW l7 fun unseen => seqW unseen fun l8 => lenW l8 fun t14 => shlW (.int 1) t14 fun t15 => eqW s t15 fun t16 => rt t16) it1 total
theorem P__law_all_words_fit (vs : List V) (H : Hp) (Q : VK) (E : XK) (h : spP A Pl (vl5 W__law_all_words_fit) vs H Q E) : t__law_all_words_fit K w (spFN A (vl2 W__law_bits)) (spF A (vl1 W__law_mask)) (spP A Pl (vl6 W__law_way_fits)) E { nx := fun _ H' => Q .non H', rt := Q } (L2.start N__law_all_words_fit vs) H :=
  spP_body (N := N__law_all_words_fit) (t := fun E => t__law_all_words_fit K w (spFN A (vl2 W__law_bits)) (spF A (vl1 W__law_mask)) (spP A Pl (vl6 W__law_way_fits)) E) h fun C hF ds rt er B F0 D hW hr hx hn => by
    obtain ⟨n, ties, group, secrets, counts, rfl, h⟩ := vl5_inv hW
    unfold W__law_all_words_fit at h
    show At C B F0 [.pool, .dat n, .dat ties, .dat group, .dat secrets, .dat counts, .no, .no, .no, .no, .no] (t__law_all_words_fit K w (spFN A (vl2 W__law_bits)) (spF A (vl1 W__law_mask)) (spP A Pl (vl6 W__law_way_fits)) E D)
    refine aw_seq ?_
    refine aw_asg (Γ' := fun total => [.pool, .dat n, .dat ties, .dat group, .dat secrets, .dat counts, .dat total, .no, .no, .no, .no]) (fun _ => rfl) (ew_let ew_int) (RaiseW.tt0 hx) h (fun total h => ?_)
    refine aw_seq ?_
    refine aw_for (σT := PyData) (vs := [7]) (fun s => [.pool, .dat n, .dat ties, .dat group, .dat secrets, .dat counts, .dat s, .no, .no, .no, .no]) (.keep (.keep (.keep (.keep (.keep (.keep (.keep (.keep (.keep (.keep (.keep .nil))))))))))) (fw_rng1 (ew_op ov_shl ew_int (ew_var rfl))) (fun F0 D => RetOk C B F0 D rt) (rok_chain hr) hx h (fun F0 mask s nx bk D hr hx hn hc hb h => ?_) (fun s h => ?_)
    · refine ⟨[.pool, .dat n, .dat ties, .dat group, .dat secrets, .dat counts, .dat s, .dat mask, .no, .no, .no], tg_name (by decide), ?_⟩
      refine aw_seq ?_
      refine aw_asg (Γ' := fun due => [.pool, .dat n, .dat ties, .dat group, .dat secrets, .dat counts, .dat s, .dat mask, .dat due, .no, .no]) (fun _ => rfl) (ew_dget (Ew.k (ew_var rfl)) (ew_op ov_bxor (ew_var rfl) (ew_call (aw_cons (ew_var rfl) aw_nil))) ew_int) (RaiseW.tt0 hx) h (fun due h => ?_)
      refine aw_seq ?_
      refine aw_asg (Γ' := fun total2 => [.pool, .dat n, .dat ties, .dat group, .dat secrets, .dat counts, .dat total2, .dat mask, .dat due, .no, .no]) (fun _ => rfl) (ew_op ov_add (ew_var rfl) (ew_var rfl)) (RaiseW.tt0 hx) h (fun total2 h => ?_)
      refine aw_if (tw_not (tw_B (ew_callP hF rfl (aw_cons (ew_var rfl) (aw_cons (ew_var rfl) (aw_cons (ew_var rfl) (aw_cons (ew_var rfl) (aw_cons (Nw.fz (nw_call (aw_cons (ew_var rfl) (aw_cons (ew_var rfl) aw_nil)))) (aw_cons (ew_var rfl) aw_nil))))))))) (RaiseW.tt0 hx) h (fun h => ?_) (fun h => ?_)
      · exact aw_ret hr ew_bl (RaiseW.tt0 hx) h
      · refine aw_next ?_
        exact at_wk (.keep (.keep (.keep (.keep (.keep (.keep (.keep (.drop (.drop (.keep (.keep .nil))))))))))) (hn _ h)
    · refine aw_seq ?_
      refine aw_asg (Γ' := fun unseen => [.pool, .dat n, .dat ties, .dat group, .dat secrets, .dat counts, .dat s, .no, .no, .dat unseen, .no]) (fun _ => rfl) (Nw.fz (nw_lc (iw_seq (Ew.s (ew_var rfl))) (fun x Y N h => ⟨_, _, _, tg_name (by decide), (tw_and (tw_test (ew_ni (ew_ix (Ew.s (ew_var rfl)) ew_int) (Ew.s (ew_var rfl)))) (tw_test (ew_ni (ew_ix (Ew.s (ew_var rfl)) ew_int) (Ew.s (ew_var rfl))))), (ew_var rfl), h⟩))) (RaiseW.tt0 hx) h (fun unseen h => ?_)
      exact aw_ret hr (ew_op ov_eq (ew_var rfl) (ew_op ov_shl ew_int (ew_len (Ew.s (ew_var rfl))))) (RaiseW.tt0 hx) h
abbrev N__law_some_words_fit : List Str := ["pool", "n", "ties", "group", "secrets", "counts", "mask", "pair", "one", "other", "words", "due", "shift", "moved"]
def t__law_some_words_fit (K : PySem.W.Frag) (w : World) (sp__law_bits : Sp) (sp__law_mask : Sp) (sp__law_take : Sp) (sp__law_way_fits : Sp) (E : XK) : TS :=
  (tSeq (tAsg (tCall sp__law_mask [] E (tCons (tVar 4) tNil)) (gName 6))
    (tSeq (tFor (iSeq K (tVar 2)) (gName 7) (tIfS (tAnd (tTest (tOp (rNiA K) (tOp (rIx K) (tVar 7) (tC (.int 0))) (tVar 3))) (tAnd (tTest (tOp (rNiA K) (tOp (rIx K) (tVar 7) (tC (.int 1))) (tVar 3))) (tTest (tOp (rEqA K) (tCall sp__law_take [] E (tCons (tVar 0) (tCons (tC (.int 2)) tNil))) (tC (.int 1)))))) (tAsg (tOp rXorI (tVar 6) (tOp rOrI (tOp rShlI (tC (.int 1)) (tOp (rIx K) (tVar 7) (tC (.int 0)))) (tOp rShlI (tC (.int 1)) (tOp (rIx K) (tVar 7) (tC (.int 1)))))) (gName 6)) tNext))
    (tSeq (tAsg (tOp rShlI (tC (.int 1)) (tCall sp__law_take [] E (tCons (tVar 0) (tCons (tVar 1) tNil)))) (gName 8))
    (tSeq (tAsg (tOp rShlI (tC (.int 1)) (tCall sp__law_take [] E (tCons (tVar 0) (tCons (tVar 1) tNil)))) (gName 9))
    (tSeq (tFor (iSeq K (tTup (tCons (tVar 6) (tCons (tOp rXorI (tVar 6) (tVar 8)) (tCons (tOp rXorI (tOp rXorI (tVar 6) (tVar 8)) (tVar 9)) (tCons (tCall sp__law_take [] E (tCons (tVar 0) (tCons (tOp rShlI (tC (.int 1)) (tVar 1)) tNil))) tNil)))))) (gName 10) (tSeq (tAsg (tDGet2 (tVar 5) (tOp rXorI (tVar 10) (tCall sp__law_mask [] E (tCons (tVar 4) tNil))) (tC (.int 0))) (gName 11))
    (tIfS (tNot (tB (tCall sp__law_way_fits [] E (tCons (tVar 0) (tCons (tVar 1) (tCons (tVar 2) (tCons (tVar 3) (tCons (tVar 4) (tCons (tCall sp__law_bits [] E (tCons (tVar 10) (tCons (tVar 1) tNil))) (tCons (tVar 11) tNil)))))))))) (tRet (tC (.bl false))) tNext)))
    (tSeq (tAsg (tCall sp__law_take [] E (tCons (tVar 0) (tCons (tOp rShlI (tC (.int 1)) (tVar 1)) tNil))) (gName 12))
    (tSeq (tAsg (tCall sp__law_bits [] E (tCons (tOp rXorI (tCall sp__law_mask [] E (tCons (tVar 4) tNil)) (tVar 12)) (tCons (tVar 1) tNil))) (gName 13))
    (tSeq (tAsg (tDGet2 (tVar 5) (tOp rXorI (tVar 6) (tCall sp__law_mask [] E (tCons (tVar 4) tNil))) (tC (.int 0))) (gName 11))
    (tRet (tAndV (tOp rGtI (tVar 11) (tC (.int 0))) (tCall sp__law_way_fits [] E (tCons (tVar 0) (tCons (tVar 1) (tCons (tVar 2) (tCons (tVar 3) (tCons (tVar 13) (tCons (tCall sp__law_bits [] E (tCons (tOp rXorI (tVar 6) (tVar 12)) (tCons (tVar 1) tNil))) (tCons (tVar 11) tNil))))))))))))))))))
@[irreducible] def W__law_some_words_fit (n : PyData) (ties : PyData) (group : PyData) (secrets : PyData) (counts : PyData) (rt : PyData → Prop) (er : XP) : Prop :=
  W__law_mask secrets (fun mask => seqW ties fun l1 => forW (σ := PyData) (fun pair s nx bk => andW (fun k3 => seqW pair fun l2 => ixW l2 (.int 0) fun t2 => seqW group fun l3 => niW t2 l3 fun t3 => boolW t3 fun b1 => k3 b1) (fun k4 => andW (fun k1 => seqW pair fun l4 => ixW l4 (.int 1) fun t4 => seqW group fun l5 => niW t4 l5 fun t5 => boolW t5 fun b2 => k1 b2) (fun k2 => W__law_take (.int 2) (fun t6 => eqW t6 (.int 1) fun t7 => boolW t7 fun b3 => k2 b3) er) fun b4 => k4 b4) fun b5 => iteW b5 (seqW pair fun l6 => ixW l6 (.int 0) fun t8 => shlW (.int 1) t8 fun t9 => seqW pair fun l7 => ixW l7 (.int 1) fun t10 => shlW (.int 1) t10 fun t11 => borW t9 t11 fun t12 => bxorW s t12 fun mask2 => nx mask2) (nx s)) (fun s => W__law_take n (fun t14 => shlW (.int 1) t14 fun one => W__law_take n (fun t16 => shlW (.int 1) t16 fun other => bxorW s one fun t18 => bxorW s one fun t19 => bxorW t19 other fun t20 => shlW (.int 1) n fun t22 => W__law_take t22 (fun t21 => dispT [s, t18, t20, t21] fun t23 => seqW t23 fun l8 => forW (σ := Unit) (fun words s_2 nx bk => dctW counts fun kv => W__law_mask secrets (fun t24 => bxorW words t24 fun t25 => dgetW kv t25 (.int 0) fun due => W__law_bits words n (fun l9 => fzW l9 fun t28 => W__law_way_fits n ties group secrets t28 due (fun t27 => boolW t27 fun b6 => iteW (!b6) (rt (.bool false)) (nx ())) er) er) er) (fun s_2 => shlW (.int 1) n fun t30 => W__law_take t30 (fun shift => W__law_mask secrets (fun t31 => bxorW t31 shift fun t32 => W__law_bits t32 n (fun l10 => fzW l10 fun moved => dctW counts fun kv2 => W__law_mask secrets (fun t34 => bxorW s t34 fun t35 => dgetW kv2 t35 (.int 0) fun due2 => andVW (fun k5 => gtW due2 (.int 0) fun t37 => k5 t37) (fun k6 => bxorW s shift fun t39 => W__law_bits t39 n (fun l11 => fzW l11 fun t40 => W__law_way_fits n ties group moved t40 due2 (fun t38 => k6 t38) er) er) fun t41 => rt t41) er) er) er) er) l8 ()) er) er) er) l1 mask) er
theorem P__law_some_words_fit (vs : List V) (H : Hp) (Q : VK) (E : XK) (h : spP A Pl (vl5 W__law_some_words_fit) vs H Q E) : t__law_some_words_fit K w (spFN A (vl2 W__law_bits)) (spF A (vl1 W__law_mask)) (spP A Pl (vl1 W__law_take)) (spP A Pl (vl6 W__law_way_fits)) E { nx := fun _ H' => Q .non H', rt := Q } (L2.start N__law_some_words_fit vs) H :=
  spP_body (N := N__law_some_words_fit) (t := fun E => t__law_some_words_fit K w (spFN A (vl2 W__law_bits)) (spF A (vl1 W__law_mask)) (spP A Pl (vl1 W__law_take)) (spP A Pl (vl6 W__law_way_fits)) E) h fun C hF ds rt er B F0 D hW hr hx hn => by
    obtain ⟨n, ties, group, secrets, counts, rfl, h⟩ := vl5_inv hW
    unfold W__law_some_words_fit at h
    show At C B F0 [.pool, .dat n, .dat ties, .dat group, .dat secrets, .dat counts, .no, .no, .no, .no, .no, .no, .no, .no] (t__law_some_words_fit K w (spFN A (vl2 W__law_bits)) (spF A (vl1 W__law_mask)) (spP A Pl (vl1 W__law_take)) (spP A Pl (vl6 W__law_way_fits)) E D)
    refine aw_seq ?_
    refine aw_asg (Γ' := fun mask => [.pool, .dat n, .dat ties, .dat group, .dat secrets, .dat counts, .dat mask, .no, .no, .no, .no, .no, .no, .no]) (fun _ => rfl) (ew_call (aw_cons (ew_var rfl) aw_nil)) (RaiseW.tt0 hx) h (fun mask h => ?_)
    refine aw_seq ?_
    refine aw_for (σT := PyData) (vs := [7]) (fun s => [.pool, .dat n, .dat ties, .dat group, .dat secrets, .dat counts, .dat s, .no, .no, .no, .no, .no, .no, .no]) (.keep (.keep (.keep (.keep (.keep (.keep (.keep (.keep (.keep (.keep (.keep (.keep (.keep (.keep .nil)))))))))))))) (fw_seq (ew_var rfl)) (fun F0 D => RetOk C B F0 D rt) (rok_chain hr) hx h (fun F0 pair s nx bk D hr hx hn hc hb h => ?_) (fun s h => ?_)
    · refine ⟨[.pool, .dat n, .dat ties, .dat group, .dat secrets, .dat counts, .dat s, .dat pair, .no, .no, .no, .no, .no, .no], tg_name (by decide), ?_⟩
      refine aw_if (tw_and (tw_test (ew_ni (ew_ix (Ew.s (ew_var rfl)) ew_int) (Ew.s (ew_var rfl)))) (tw_and (tw_test (ew_ni (ew_ix (Ew.s (ew_var rfl)) ew_int) (Ew.s (ew_var rfl)))) (tw_test (ew_op ov_eq (ew_callP hF rfl (aw_cons ew_int aw_nil)) ew_int)))) (RaiseW.tt0 hx) h (fun h => ?_) (fun h => ?_)
      · refine aw_asg (Γ' := fun mask2 => [.pool, .dat n, .dat ties, .dat group, .dat secrets, .dat counts, .dat mask2, .dat pair, .no, .no, .no, .no, .no, .no]) (fun _ => rfl) (ew_op ov_bxor (ew_var rfl) (ew_op ov_bor (ew_op ov_shl ew_int (ew_ix (Ew.s (ew_var rfl)) ew_int)) (ew_op ov_shl ew_int (ew_ix (Ew.s (ew_var rfl)) ew_int)))) (RaiseW.tt0 hx) h (fun mask2 h => ?_)
        exact at_wk (.keep (.keep (.keep (.keep (.keep (.keep (.keep (.drop (.keep (.keep (.keep (.keep (.keep (.keep .nil)))))))))))))) (hn _ h)
      · refine aw_next ?_
        exact at_wk (.keep (.keep (.keep (.keep (.keep (.keep (.keep (.drop (.keep (.keep (.keep (.keep (.keep (.keep .nil)))))))))))))) (hn _ h)
    · refine aw_seq ?_
      refine aw_asg (Γ' := fun one => [.pool, .dat n, .dat ties, .dat group, .dat secrets, .dat counts, .dat s, .no, .dat one, .no, .no, .no, .no, .no]) (fun _ => rfl) (ew_op ov_shl ew_int (ew_callP hF rfl (aw_cons (ew_var rfl) aw_nil))) (RaiseW.tt0 hx) h (fun one h => ?_)
      refine aw_seq ?_
      refine aw_asg (Γ' := fun other => [.pool, .dat n, .dat ties, .dat group, .dat secrets, .dat counts, .dat s, .no, .dat one, .dat other, .no, .no, .no, .no]) (fun _ => rfl) (ew_op ov_shl ew_int (ew_callP hF rfl (aw_cons (ew_var rfl) aw_nil))) (RaiseW.tt0 hx) h (fun other h => ?_)
      refine aw_seq ?_
      refine aw_for (σT := Unit) (vs := [10]) (fun s_2 => [.pool, .dat n, .dat ties, .dat group, .dat secrets, .dat counts, .dat s, .no, .dat one, .dat other, .no, .no, .no, .no]) (.keep (.keep (.keep (.keep (.keep (.keep (.keep (.keep (.keep (.keep (.keep (.keep (.keep (.keep .nil)))))))))))))) (fw_seq (ew_tup (aw_cons (ew_var rfl) (aw_cons (ew_op ov_bxor (ew_var rfl) (ew_var rfl)) (aw_cons (ew_op ov_bxor (ew_op ov_bxor (ew_var rfl) (ew_var rfl)) (ew_var rfl)) (aw_cons (ew_callP hF rfl (aw_cons (ew_op ov_shl ew_int (ew_var rfl)) aw_nil)) aw_nil)))))) (fun F0 D => RetOk C B F0 D rt) (rok_chain hr) hx h (fun F0 words s_2 nx bk D hr hx hn hc hb h => ?_) (fun s_2 h => ?_)
      · refine ⟨[.pool, .dat n, .dat ties, .dat group, .dat secrets, .dat counts, .dat s, .no, .dat one, .dat other, .dat words, .no, .no, .no], tg_name (by decide), ?_⟩
        refine aw_seq ?_
        refine aw_asg (Γ' := fun due => [.pool, .dat n, .dat ties, .dat group, .dat secrets, .dat counts, .dat s, .no, .dat one, .dat other, .dat words, .dat due, .no, .no]) (fun _ => rfl) (ew_dget (Ew.k (ew_var rfl)) (ew_op ov_bxor (ew_var rfl) (ew_call (aw_cons (ew_var rfl) aw_nil))) ew_int) (RaiseW.tt0 hx) h (fun due h => ?_)
        refine aw_if (tw_not (tw_B (ew_callP hF rfl (aw_cons (ew_var rfl) (aw_cons (ew_var rfl) (aw_cons (ew_var rfl) (aw_cons (ew_var rfl) (aw_cons (Nw.fz (nw_call (aw_cons (ew_var rfl) (aw_cons (ew_var rfl) aw_nil)))) (aw_cons (ew_var rfl) aw_nil))))))))) (RaiseW.tt0 hx) h (fun h => ?_) (fun h => ?_)
        · exact aw_ret hr ew_bl (RaiseW.tt0 hx) h
        · refine aw_next ?_
          exact at_wk (.keep (.keep (.keep (.keep (.keep (.keep (.keep (.keep (.keep (.keep (.drop (.drop (.keep (.keep .nil)))))))))))))) (hn _ h)
      · refine aw_seq ?_
        refine aw_asg (Γ' := fun shift => [.pool, .dat n, .dat ties, .dat group, .dat secrets, .dat counts, .dat s, .no, .dat one, .dat other, .no, .no, .dat shift, .no]) (fun _ => rfl) (ew_callP hF rfl (aw_cons (ew_op ov_shl ew_int (ew_var rfl)) aw_nil)) (RaiseW.tt0 hx) h (fun shift h => ?_)
        refine aw_seq ?_
        refine aw_asg (Γ' := fun moved => [.pool, .dat n, .dat ties, .dat group, .dat secrets, .dat counts, .dat s, .no, .dat one, .dat other, .no, .no, .dat shift, .dat moved]) (fun _ => rfl) (Nw.fz (nw_call (aw_cons (ew_op ov_bxor (ew_call (aw_cons (ew_var rfl) aw_nil)) (ew_var rfl)) (aw_cons (ew_var rfl) aw_nil)))) (RaiseW.tt0 hx) h (fun moved h => ?_)
        refine aw_seq ?_
        refine aw_asg (Γ' := fun due2 => [.pool, .dat n, .dat ties, .dat group, .dat secrets, .dat counts, .dat s, .no, .dat one, .dat other, .no, .dat due2, .dat shift, .dat moved]) (fun _ => rfl) (ew_dget (Ew.k (ew_var rfl)) (ew_op ov_bxor (ew_var rfl) (ew_call (aw_cons (ew_var rfl) aw_nil))) ew_int) (RaiseW.tt0 hx) h (fun due2 h => ?_)
        exact aw_ret hr (ew_andV (ew_op ov_gt (ew_var rfl) ew_int) (ew_callP hF rfl (aw_cons (ew_var rfl) (aw_cons (ew_var rfl) (aw_cons (ew_var rfl) (aw_cons (ew_var rfl) (aw_cons (Nw.fz (nw_call (aw_cons (ew_op ov_bxor (ew_var rfl) (ew_var rfl)) (aw_cons (ew_var rfl) aw_nil)))) (aw_cons (ew_var rfl) aw_nil)))))))) (RaiseW.tt0 hx) h
abbrev N__law_refusal : List Str := ["n", "ties", "group", "secrets", "words", "e", "kinds", "place", "k"]
def t__law_refusal (K : PySem.W.Frag) (w : World) (C_BadCalls : Addr) (C_BadDeals : Addr) (C_BadGroup : Addr) (C_BadLine : Addr) (C_BadNumber : Addr) (C_BadRow : Addr) (C_BadSteps : Addr) (C_BadTable : Addr) (C_BadText : Addr) (C_BadWorlds : Addr) (C_JointError : Addr) (C_NotThere : Addr) (C_NothingDone : Addr) (C_TooLarge : Addr) (sp_ways_said : Sp) (E : XK) : TS :=
  (tSeq (tTryC K [(.ref C_JointError, some 5, fun a cls d =>
    (tSeq (tAsg (tLst (tCons (tCB (rIsY K a cls d) (tCons (tVar 5) (tCons (tC (.ref C_BadNumber)) tNil))) (tCons (tCB (rIsY K a cls d) (tCons (tVar 5) (tCons (tC (.ref C_BadCalls)) tNil))) (tCons (tCB (rIsY K a cls d) (tCons (tVar 5) (tCons (tC (.ref C_BadGroup)) tNil))) (tCons (tCB (rIsY K a cls d) (tCons (tVar 5) (tCons (tC (.ref C_BadRow)) tNil))) tNil))))) (gName 6))
    (tSeq (tAsg (tOp (rAddA K) (tVar 6) (tLst (tCons (tCB (rIsY K a cls d) (tCons (tVar 5) (tCons (tC (.ref C_BadDeals)) tNil))) (tCons (tCB (rIsY K a cls d) (tCons (tVar 5) (tCons (tC (.ref C_BadLine)) tNil))) (tCons (tCB (rIsY K a cls d) (tCons (tVar 5) (tCons (tC (.ref C_BadSteps)) tNil))) tNil))))) (gName 6))
    (tSeq (tAsg (tOp (rAddA K) (tVar 6) (tLst (tCons (tCB (rIsY K a cls d) (tCons (tVar 5) (tCons (tC (.ref C_BadTable)) tNil))) (tCons (tCB (rIsY K a cls d) (tCons (tVar 5) (tCons (tC (.ref C_BadText)) tNil))) (tCons (tCB (rIsY K a cls d) (tCons (tVar 5) (tCons (tC (.ref C_BadWorlds)) tNil))) tNil))))) (gName 6))
    (tSeq (tAsg (tOp (rAddA K) (tVar 6) (tLst (tCons (tCB (rIsY K a cls d) (tCons (tVar 5) (tCons (tC (.ref C_NothingDone)) tNil))) tNil))) (gName 6))
    (tSeq (tAsg (tOp (rAddA K) (tVar 6) (tLst (tCons (tCB (rIsY K a cls d) (tCons (tVar 5) (tCons (tC (.ref C_NotThere)) tNil))) (tCons (tCB (rIsY K a cls d) (tCons (tVar 5) (tCons (tC (.ref C_TooLarge)) tNil))) (tCons (tNotV (tCB (rIsY K a cls d) (tCons (tVar 5) (tCons (tC (.ty "ValueError")) tNil)))) tNil))))) (gName 6))
    (tSeq (tAsg (tC (.int 0)) (gName 7))
    (tSeq (tIfS (tB (tCB (rIsY K a cls d) (tCons (tVar 5) (tCons (tC (.ref C_BadRow)) tNil)))) (tAsg (tXf a cls d C_BadRow "place" (tVar 5)) (gName 7)) tNext)
    (tRet (tLst (tCons (tThen (tLc (iRng1 (tCons (tCB (rLenA K) (tCons (tVar 6) tNil)) tNil)) (gName 8) (tB (tOp (rIx K) (tVar 6) (tVar 8))) (tVar 8) [8]) (kTup K)) (tCons (tVar 7) tNil))))))))))))] (fun cls d _ H => E cls d H) (fun W =>
    (tDrop (tCallS sp_ways_said (WE W) (tCons (tVar 0) (tCons (tVar 1) (tCons (tVar 2) (tCons (tVar 3) (tCons (tVar 4) tNil)))))))))
    (tRet (tLst (tCons (tTup tNil) (tCons (tC (.int 0)) tNil)))))
@[irreducible] def W__law_refusal (n : PyData) (ties : PyData) (group : PyData) (secrets : PyData) (words : PyData) (rt : PyData → Prop) (er : XP) : Prop :=
  joinW (fun xr => W_ways_said n ties group secrets words (fun t1 => dispT [] fun t2 => dispL [t2, (.int 0)] fun l1 => fzW l1 fun t3 => rt t3) xr) fun n2 f => catchW xn n2 "JointError" (sufW f fun pl => isXW xn n2 "BadNumber" fun t4 => isXW xn n2 "BadCalls" fun t5 => isXW xn n2 "BadGroup" fun t6 => isXW xn n2 "BadRow" fun t7 => dispL [t4, t5, t6, t7] fun l2 => fzW l2 fun kinds => lstW kinds fun l3 => isXW xn n2 "BadDeals" fun t9 => isXW xn n2 "BadLine" fun t10 => isXW xn n2 "BadSteps" fun t11 => dispL [t9, t10, t11] fun l4 => catW l3 l4 fun l5 => fzW l5 fun kinds2 => lstW kinds2 fun l6 => isXW xn n2 "BadTable" fun t13 => isXW xn n2 "BadText" fun t14 => isXW xn n2 "BadWorlds" fun t15 => dispL [t13, t14, t15] fun l7 => catW l6 l7 fun l8 => fzW l8 fun kinds3 => lstW kinds3 fun l9 => isXW xn n2 "NothingDone" fun t17 => dispL [t17] fun l10 => catW l9 l10 fun l11 => fzW l11 fun kinds4 => lstW kinds4 fun l12 => isXW xn n2 "NotThere" fun t19 => isXW xn n2 "TooLarge" fun t20 => isVW xn n2 fun t21 => notW t21 fun t22 => dispL [t19, t20, t22] fun l13 => catW l12 l13 fun l14 => fzW l14 fun kinds5 => letW (.int 0) fun place => joinW (fun k1 => isXW xn n2 "BadRow" fun t25 => boolW t25 fun b1 => iteW b1 (plW n2 pl fun place3 => k1 place3) (k1 place)) fun place2 => seqW kinds5 fun l15 => lenW l15 fun t27 => rngW t27 fun it1 => lcW it1 (fun k2 Y N => seqW kinds5 fun l16 => ixW l16 k2 fun t28 => boolW t28 fun b2 => iteW b2 (Y k2) N) fun l17 => tupW l17 fun t29 => dispL [t29, place2] fun l18 => fzW l18 fun t30 => rt t30) (er n2 f)
theorem P__law_refusal (fx : XF A K xn) (vs : List V) (H : Hp) (Q : VK) (E : XK) (h : spF A (vl5 W__law_refusal) vs H Q E) : t__law_refusal K w (A "BadCalls") (A "BadDeals") (A "BadGroup") (A "BadLine") (A "BadNumber") (A "BadRow") (A "BadSteps") (A "BadTable") (A "BadText") (A "BadWorlds") (A "JointError") (A "NotThere") (A "NothingDone") (A "TooLarge") (spF A (vl5 W_ways_said)) E { nx := fun _ H' => Q .non H', rt := Q } (L2.start N__law_refusal vs) H :=
  spF_body (N := N__law_refusal) (t := fun E => t__law_refusal K w (A "BadCalls") (A "BadDeals") (A "BadGroup") (A "BadLine") (A "BadNumber") (A "BadRow") (A "BadSteps") (A "BadTable") (A "BadText") (A "BadWorlds") (A "JointError") (A "NotThere") (A "NothingDone") (A "TooLarge") (spF A (vl5 W_ways_said)) E) h fun ds rt er B F0 D hW hr hx hn => by
    obtain ⟨n, ties, group, secrets, words, rfl, h⟩ := vl5_inv hW
    unfold W__law_refusal at h
    show At pc0 B F0 [.dat n, .dat ties, .dat group, .dat secrets, .dat words, .no, .no, .no, .no] (t__law_refusal K w (A "BadCalls") (A "BadDeals") (A "BadGroup") (A "BadLine") (A "BadNumber") (A "BadRow") (A "BadSteps") (A "BadTable") (A "BadText") (A "BadWorlds") (A "JointError") (A "NotThere") (A "NothingDone") (A "TooLarge") (spF A (vl5 W_ways_said)) E D)
    refine aw_seq ?_
    refine aw_tryY (rt := rt) fx rfl (hr.of rfl) hx h (fun xr W ht h => ?_) (fun C B F0 D n2 a pl d so hr h => ?_)
    · refine aw_drop (ew_callS (aw_cons (ew_var rfl) (aw_cons (ew_var rfl) (aw_cons (ew_var rfl) (aw_cons (ew_var rfl) (aw_cons (ew_var rfl) aw_nil)))))) ht h (fun _ h => ?_)
      exact aw_ret hr (Nw.fz (nw_lst (aw_cons (ew_tup aw_nil) (aw_cons ew_int aw_nil)))) (RaiseW.tt0 hx) h
    · have hx : RaiseW A C B F0 E noX := fun _ _ _ _ _ _ _ _ z => z.elim
      refine aw_seq ?_
      refine aw_asg (Γ' := fun kinds => [.dat n, .dat ties, .dat group, .dat secrets, .dat words, .ref a, .dat kinds, .no, .no]) (fun _ => rfl) (Nw.fz (nw_lst (aw_cons (ew_isY fx so rfl) (aw_cons (ew_isY fx so rfl) (aw_cons (ew_isY fx so rfl) (aw_cons (ew_isY fx so rfl) aw_nil)))))) (RaiseW.tt0 hx) h (fun kinds h => ?_)
      refine aw_seq ?_
      refine aw_asg (Γ' := fun kinds2 => [.dat n, .dat ties, .dat group, .dat secrets, .dat words, .ref a, .dat kinds2, .no, .no]) (fun _ => rfl) (Nw.fz (nw_cat (Ew.ls (ew_var rfl)) (Nw.ls (nw_lst (aw_cons (ew_isY fx so rfl) (aw_cons (ew_isY fx so rfl) (aw_cons (ew_isY fx so rfl) aw_nil))))))) (RaiseW.tt0 hx) h (fun kinds2 h => ?_)
      refine aw_seq ?_
      refine aw_asg (Γ' := fun kinds3 => [.dat n, .dat ties, .dat group, .dat secrets, .dat words, .ref a, .dat kinds3, .no, .no]) (fun _ => rfl) (Nw.fz (nw_cat (Ew.ls (ew_var rfl)) (Nw.ls (nw_lst (aw_cons (ew_isY fx so rfl) (aw_cons (ew_isY fx so rfl) (aw_cons (ew_isY fx so rfl) aw_nil))))))) (RaiseW.tt0 hx) h (fun kinds3 h => ?_)
      refine aw_seq ?_
      refine aw_asg (Γ' := fun kinds4 => [.dat n, .dat ties, .dat group, .dat secrets, .dat words, .ref a, .dat kinds4, .no, .no]) (fun _ => rfl) (Nw.fz (nw_cat (Ew.ls (ew_var rfl)) (Nw.ls (nw_lst (aw_cons (ew_isY fx so rfl) aw_nil))))) (RaiseW.tt0 hx) h (fun kinds4 h => ?_)
      refine aw_seq ?_
      refine aw_asg (Γ' := fun kinds5 => [.dat n, .dat ties, .dat group, .dat secrets, .dat words, .ref a, .dat kinds5, .no, .no]) (fun _ => rfl) (Nw.fz (nw_cat (Ew.ls (ew_var rfl)) (Nw.ls (nw_lst (aw_cons (ew_isY fx so rfl) (aw_cons (ew_isY fx so rfl) (aw_cons (ew_notV (ew_isYV fx so rfl)) aw_nil))))))) (RaiseW.tt0 hx) h (fun kinds5 h => ?_)
      refine aw_seq ?_
      refine aw_asg (Γ' := fun place => [.dat n, .dat ties, .dat group, .dat secrets, .dat words, .ref a, .dat kinds5, .dat place, .no]) (fun _ => rfl) (ew_let ew_int) (RaiseW.tt0 hx) h (fun place h => ?_)
      refine aw_join (J := fun (k : PyData → Prop) Z => ∀ place2, k place2 → At C B F0 [.dat n, .dat ties, .dat group, .dat secrets, .dat words, .ref a, .dat kinds5, .dat place2, .no] Z) h (fun place2 h => ?_) (fun k' hk h => ?_)
      · exact aw_ret hr (Nw.fz (nw_lst (aw_cons (ew_tupleL (Nw.ls (nw_lc (Fw.it (fw_rng1 (ew_len (Ew.s (ew_var rfl))))) (fun x Y N h => ⟨_, _, _, tg_name (by decide), (tw_B (ew_ix (Ew.s (ew_var rfl)) (ew_var rfl))), (ew_var rfl), h⟩)))) (aw_cons (ew_var rfl) aw_nil)))) (RaiseW.tt0 hx) h
      · refine aw_if (tw_B (ew_isY fx so rfl)) (RaiseW.tt0 hx) h (fun h => ?_) (fun h => ?_)
        · refine aw_asg (Γ' := fun place3 => [.dat n, .dat ties, .dat group, .dat secrets, .dat words, .ref a, .dat kinds5, .dat place3, .no]) (fun _ => rfl) (ew_pl so rfl) (RaiseW.tt0 hx) h (fun place3 h => ?_)
          exact at_wk (.keep (.keep (.keep (.keep (.keep (.keep (.keep (.keep (.keep .nil))))))))) (hk _ h)
        · refine aw_next ?_
          exact at_wk (.keep (.keep (.keep (.keep (.keep (.keep (.keep (.keep (.keep .nil))))))))) (hk _ h)
abbrev N__law_refused : List Str := ["pool", "n", "ties", "group", "secrets", "words", "wrong", "cut", "odd", "loose", "last", "found", "row"]
def t__law_refused (K : PySem.W.Frag) (w : World) (sp__law_bad_bits : Sp) (sp__law_bad_group : Sp) (sp__law_bad_number : Sp) (sp__law_bad_ties : Sp) (sp__law_refusal : Sp) (sp__law_same : Sp) (E : XK) : TS :=
  (tSeq (tAsg (tCall sp__law_bad_number [] E (tCons (tVar 0) tNil)) (gName 6))
    (tSeq (tAsg (tCall sp__law_bad_ties [] E (tCons (tVar 0) (tCons (tVar 1) (tCons (tVar 2) tNil)))) (gName 7))
    (tSeq (tAsg (tCall sp__law_bad_group [] E (tCons (tVar 0) (tCons (tVar 1) (tCons (tVar 3) tNil)))) (gName 8))
    (tSeq (tAsg (tCall sp__law_bad_bits [] E (tCons (tVar 0) (tCons (tVar 4) tNil))) (gName 9))
    (tSeq (tAsg (tCall sp__law_bad_bits [] E (tCons (tVar 0) (tCons (tVar 5) tNil))) (gName 10))
    (tSeq (tAsg (tLst (tCons (tCall sp__law_refusal [] E (tCons (tVar 6) (tCons (tVar 2) (tCons (tVar 3) (tCons (tVar 4) (tCons (tVar 5) tNil)))))) (tCons (tCall sp__law_refusal [] E (tCons (tVar 6) (tCons (tVar 7) (tCons (tVar 3) (tCons (tVar 4) (tCons (tVar 5) tNil)))))) tNil))) (gName 11))
    (tSeq (tFor (iSeq K (tVar 11)) (gName 12) (tIfS (tNot (tB (tCall sp__law_same [] E (tCons (tThen (tVar 12) (kTup K)) (tCons (tTup (tCons (tTup (tCons (tC (.int 0)) tNil)) (tCons (tC (.int 0)) tNil))) tNil))))) (tRet (tC (.bl false))) tNext))
    (tSeq (tAsg (tLst (tCons (tCall sp__law_refusal [] E (tCons (tVar 1) (tCons (tVar 7) (tCons (tVar 3) (tCons (tVar 4) (tCons (tVar 5) tNil)))))) (tCons (tCall sp__law_refusal [] E (tCons (tVar 1) (tCons (tVar 7) (tCons (tVar 8) (tCons (tVar 4) (tCons (tVar 5) tNil)))))) tNil))) (gName 11))
    (tSeq (tFor (iSeq K (tVar 11)) (gName 12) (tIfS (tNot (tB (tCall sp__law_same [] E (tCons (tThen (tVar 12) (kTup K)) (tCons (tTup (tCons (tTup (tCons (tC (.int 1)) tNil)) (tCons (tC (.int 0)) tNil))) tNil))))) (tRet (tC (.bl false))) tNext))
    (tSeq (tAsg (tLst (tCons (tCall sp__law_refusal [] E (tCons (tVar 1) (tCons (tVar 2) (tCons (tVar 8) (tCons (tVar 4) (tCons (tVar 5) tNil)))))) (tCons (tCall sp__law_refusal [] E (tCons (tVar 1) (tCons (tVar 2) (tCons (tVar 8) (tCons (tOp (rIx K) (tVar 9) (tC (.int 0))) (tCons (tVar 5) tNil)))))) tNil))) (gName 11))
    (tSeq (tFor (iSeq K (tVar 11)) (gName 12) (tIfS (tNot (tB (tCall sp__law_same [] E (tCons (tThen (tVar 12) (kTup K)) (tCons (tTup (tCons (tTup (tCons (tC (.int 2)) tNil)) (tCons (tC (.int 0)) tNil))) tNil))))) (tRet (tC (.bl false))) tNext))
    (tSeq (tAsg (tLst (tCons (tCall sp__law_refusal [] E (tCons (tVar 1) (tCons (tVar 2) (tCons (tVar 3) (tCons (tOp (rIx K) (tVar 9) (tC (.int 0))) (tCons (tVar 5) tNil)))))) (tCons (tCall sp__law_refusal [] E (tCons (tVar 1) (tCons (tVar 2) (tCons (tVar 3) (tCons (tOp (rIx K) (tVar 9) (tC (.int 0))) (tCons (tOp (rIx K) (tVar 10) (tC (.int 0))) tNil)))))) tNil))) (gName 11))
    (tSeq (tFor (iSeq K (tVar 11)) (gName 12) (tIfS (tNot (tB (tCall sp__law_same [] E (tCons (tThen (tVar 12) (kTup K)) (tCons (tTup (tCons (tTup (tCons (tC (.int 3)) tNil)) (tCons (tOp (rIx K) (tVar 9) (tC (.int 1))) tNil))) tNil))))) (tRet (tC (.bl false))) tNext))
    (tSeq (tIfS (tNot (tB (tCall sp__law_same [] E (tCons (tThen (tCall sp__law_refusal [] E (tCons (tVar 1) (tCons (tVar 2) (tCons (tVar 3) (tCons (tVar 4) (tCons (tOp (rIx K) (tVar 10) (tC (.int 0))) tNil)))))) (kTup K)) (tCons (tTup (tCons (tTup (tCons (tC (.int 3)) tNil)) (tCons (tOp (rIx K) (tVar 10) (tC (.int 1))) tNil))) tNil))))) (tRet (tC (.bl false))) tNext)
    (tRet (tCall sp__law_same [] E (tCons (tThen (tCall sp__law_refusal [] E (tCons (tVar 1) (tCons (tVar 2) (tCons (tVar 3) (tCons (tVar 4) (tCons (tVar 5) tNil)))))) (kTup K)) (tCons (tTup (tCons (tTup tNil) (tCons (tC (.int 0)) tNil))) tNil))))))))))))))))))
@[irreducible] def W__law_refused (n : PyData) (ties : PyData) (group : PyData) (secrets : PyData) (words : PyData) (rt : PyData → Prop) (er : XP) : Prop :=
  W__law_bad_number (fun wrong => W__law_bad_ties n ties (fun cut => W__law_bad_group n group (fun odd => W__law_bad_bits secrets (fun loose => W__law_bad_bits words (fun last => W__law_refusal wrong ties group secrets words (fun t6 => W__law_refusal wrong cut group secrets words (fun t7 => dispL [t6, t7] fun l1 => fzW l1 fun found => seqW found fun l2 => forW (σ := Unit) (fun row s nx bk => seqW row fun l3 => tupW l3 fun t10 => dispT [(.int 0)] fun t11 => dispT [t11, (.int 0)] fun t12 => W__law_same 9 t10 t12 (fun t9 => boolW t9 fun b1 => iteW (!b1) (rt (.bool false)) (nx ())) er) (fun s => W__law_refusal n cut group secrets words (fun t13 => W__law_refusal n cut odd secrets words (fun t14 => dispL [t13, t14] fun l4 => fzW l4 fun found2 => seqW found2 fun l5 => forW (σ := Unit) (fun row2 s_2 nx bk => seqW row2 fun l6 => tupW l6 fun t17 => dispT [(.int 1)] fun t18 => dispT [t18, (.int 0)] fun t19 => W__law_same 9 t17 t19 (fun t16 => boolW t16 fun b2 => iteW (!b2) (rt (.bool false)) (nx ())) er) (fun s_2 => W__law_refusal n ties odd secrets words (fun t20 => seqW loose fun l7 => ixW l7 (.int 0) fun t22 => W__law_refusal n ties odd t22 words (fun t21 => dispL [t20, t21] fun l8 => fzW l8 fun found3 => seqW found3 fun l9 => forW (σ := Unit) (fun row3 s_3 nx bk => seqW row3 fun l10 => tupW l10 fun t25 => dispT [(.int 2)] fun t26 => dispT [t26, (.int 0)] fun t27 => W__law_same 9 t25 t27 (fun t24 => boolW t24 fun b3 => iteW (!b3) (rt (.bool false)) (nx ())) er) (fun s_3 => seqW loose fun l11 => ixW l11 (.int 0) fun t29 => W__law_refusal n ties group t29 words (fun t28 => seqW loose fun l12 => ixW l12 (.int 0) fun t31 => seqW last fun l13 => ixW l13 (.int 0) fun t32 => W__law_refusal n ties group t31 t32 (fun t30 => dispL [t28, t30] fun l14 => fzW l14 fun found4 => seqW found4 fun l15 => forW (σ := Unit) (fun row4 s_4 nx bk => seqW row4 fun l16 => tupW l16 fun t35 => dispT [(.int 3)] fun t36 => seqW loose fun l17 => ixW l17 (.int 1) fun t37 => dispT [t36, t37] fun t38 => W__law_same 9 t35 t38 (fun t34 => boolW t34 fun b4 => iteW (!b4) (rt (.bool false)) (nx ())) er) (fun s_4 => seqW last fun l18 => ixW l18 (.int 0) fun t41 => W__law_refusal n ties group secrets t41 (fun t40 => seqW t40 fun l19 => tupW l19 fun t42 => dispT [(.int 3)] fun t43 => seqW last fun l20 => ixW l20 (.int 1) fun t44 => dispT [t43, t44] fun t45 => W__law_same 9 t42 t45 (fun t39 => boolW t39 fun b5 => iteW (!b5) (rt (.bool false)) (W__law_refusal n ties group secrets words (fun t47 => seqW t47 fun l21 => tupW l21 fun t48 => dispT [] fun t49 => dispT [t49, (.int 0)] fun t50 => W__law_same 9 t48 t50 (fun t46 => rt t46) er) er)) er) er) l15 ()) er) er) l9 ()) er) er) l5 ()) er) er) l2 ()) er) er) er) er) er) er) er
theorem P__law_refused (vs : List V) (H : Hp) (Q : VK) (E : XK) (h : spP A Pl (vl5 W__law_refused) vs H Q E) : t__law_refused K w (spP A Pl (vl1 W__law_bad_bits)) (spP A Pl (vl2 W__law_bad_group)) (spP A Pl (vl0 W__law_bad_number)) (spP A Pl (vl2 W__law_bad_ties)) (spF A (vl5 W__law_refusal)) (spF A (vl2 (W__law_same 9))) E { nx := fun _ H' => Q .non H', rt := Q } (L2.start N__law_refused vs) H :=
  spP_body (N := N__law_refused) (t := fun E => t__law_refused K w (spP A Pl (vl1 W__law_bad_bits)) (spP A Pl (vl2 W__law_bad_group)) (spP A Pl (vl0 W__law_bad_number)) (spP A Pl (vl2 W__law_bad_ties)) (spF A (vl5 W__law_refusal)) (spF A (vl2 (W__law_same 9))) E) h fun C hF ds rt er B F0 D hW hr hx hn => by
    obtain ⟨n, ties, group, secrets, words, rfl, h⟩ := vl5_inv hW
    unfold W__law_refused at h
    show At C B F0 [.pool, .dat n, .dat ties, .dat group, .dat secrets, .dat words, .no, .no, .no, .no, .no, .no, .no] (t__law_refused K w (spP A Pl (vl1 W__law_bad_bits)) (spP A Pl (vl2 W__law_bad_group)) (spP A Pl (vl0 W__law_bad_number)) (spP A Pl (vl2 W__law_bad_ties)) (spF A (vl5 W__law_refusal)) (spF A (vl2 (W__law_same 9))) E D)
    refine aw_seq ?_
    refine aw_asg (Γ' := fun wrong => [.pool, .dat n, .dat ties, .dat group, .dat secrets, .dat words, .dat wrong, .no, .no, .no, .no, .no, .no]) (fun _ => rfl) (ew_callP hF rfl aw_nil) (RaiseW.tt0 hx) h (fun wrong h => ?_)
    refine aw_seq ?_
    refine aw_asg (Γ' := fun cut => [.pool, .dat n, .dat ties, .dat group, .dat secrets, .dat words, .dat wrong, .dat cut, .no, .no, .no, .no, .no]) (fun _ => rfl) (ew_callP hF rfl (aw_cons (ew_var rfl) (aw_cons (ew_var rfl) aw_nil))) (RaiseW.tt0 hx) h (fun cut h => ?_)
    refine aw_seq ?_
    refine aw_asg (Γ' := fun odd => [.pool, .dat n, .dat ties, .dat group, .dat secrets, .dat words, .dat wrong, .dat cut, .dat odd, .no, .no, .no, .no]) (fun _ => rfl) (ew_callP hF rfl (aw_cons (ew_var rfl) (aw_cons (ew_var rfl) aw_nil))) (RaiseW.tt0 hx) h (fun odd h => ?_)
    refine aw_seq ?_
    refine aw_asg (Γ' := fun loose => [.pool, .dat n, .dat ties, .dat group, .dat secrets, .dat words, .dat wrong, .dat cut, .dat odd, .dat loose, .no, .no, .no]) (fun _ => rfl) (ew_callP hF rfl (aw_cons (ew_var rfl) aw_nil)) (RaiseW.tt0 hx) h (fun loose h => ?_)
    refine aw_seq ?_
    refine aw_asg (Γ' := fun last => [.pool, .dat n, .dat ties, .dat group, .dat secrets, .dat words, .dat wrong, .dat cut, .dat odd, .dat loose, .dat last, .no, .no]) (fun _ => rfl) (ew_callP hF rfl (aw_cons (ew_var rfl) aw_nil)) (RaiseW.tt0 hx) h (fun last h => ?_)
    refine aw_seq ?_
    refine aw_asg (Γ' := fun found => [.pool, .dat n, .dat ties, .dat group, .dat secrets, .dat words, .dat wrong, .dat cut, .dat odd, .dat loose, .dat last, .dat found, .no]) (fun _ => rfl) (Nw.fz (nw_lst (aw_cons (ew_call (aw_cons (ew_var rfl) (aw_cons (ew_var rfl) (aw_cons (ew_var rfl) (aw_cons (ew_var rfl) (aw_cons (ew_var rfl) aw_nil)))))) (aw_cons (ew_call (aw_cons (ew_var rfl) (aw_cons (ew_var rfl) (aw_cons (ew_var rfl) (aw_cons (ew_var rfl) (aw_cons (ew_var rfl) aw_nil)))))) aw_nil)))) (RaiseW.tt0 hx) h (fun found h => ?_)
    refine aw_seq ?_
    refine aw_for (σT := Unit) (vs := [12]) (fun s => [.pool, .dat n, .dat ties, .dat group, .dat secrets, .dat words, .dat wrong, .dat cut, .dat odd, .dat loose, .dat last, .dat found, .no]) (.keep (.keep (.keep (.keep (.keep (.keep (.keep (.keep (.keep (.keep (.keep (.keep (.keep .nil))))))))))))) (fw_seq (ew_var rfl)) (fun F0 D => RetOk C B F0 D rt) (rok_chain hr) hx h (fun F0 row s nx bk D hr hx hn hc hb h => ?_) (fun s h => ?_)
    · refine ⟨[.pool, .dat n, .dat ties, .dat group, .dat secrets, .dat words, .dat wrong, .dat cut, .dat odd, .dat loose, .dat last, .dat found, .dat row], tg_name (by decide), ?_⟩
      refine aw_if (tw_not (tw_B (ew_call (aw_cons (ew_tupleD (ew_var rfl)) (aw_cons (ew_tup (aw_cons (ew_tup (aw_cons ew_int aw_nil)) (aw_cons ew_int aw_nil))) aw_nil))))) (RaiseW.tt0 hx) h (fun h => ?_) (fun h => ?_)
      · exact aw_ret hr ew_bl (RaiseW.tt0 hx) h
      · refine aw_next ?_
        exact at_wk (.keep (.keep (.keep (.keep (.keep (.keep (.keep (.keep (.keep (.keep (.keep (.keep (.drop .nil))))))))))))) (hn _ h)
    · refine aw_seq ?_
      refine aw_asg (Γ' := fun found2 => [.pool, .dat n, .dat ties, .dat group, .dat secrets, .dat words, .dat wrong, .dat cut, .dat odd, .dat loose, .dat last, .dat found2, .no]) (fun _ => rfl) (Nw.fz (nw_lst (aw_cons (ew_call (aw_cons (ew_var rfl) (aw_cons (ew_var rfl) (aw_cons (ew_var rfl) (aw_cons (ew_var rfl) (aw_cons (ew_var rfl) aw_nil)))))) (aw_cons (ew_call (aw_cons (ew_var rfl) (aw_cons (ew_var rfl) (aw_cons (ew_var rfl) (aw_cons (ew_var rfl) (aw_cons (ew_var rfl) aw_nil)))))) aw_nil)))) (RaiseW.tt0 hx) h (fun found2 h => ?_)
      refine aw_seq ?_
      refine aw_for (σT := Unit) (vs := [12]) (fun s_2 => [.pool, .dat n, .dat ties, .dat group, .dat secrets, .dat words, .dat wrong, .dat cut, .dat odd, .dat loose, .dat last, .dat found2, .no]) (.keep (.keep (.keep (.keep (.keep (.keep (.keep (.keep (.keep (.keep (.keep (.keep (.keep .nil))))))))))))) (fw_seq (ew_var rfl)) (fun F0 D => RetOk C B F0 D rt) (rok_chain hr) hx h (fun F0 row2 s_2 nx bk D hr hx hn hc hb h => ?_) (fun s_2 h => ?_)
      · refine ⟨[.pool, .dat n, .dat ties, .dat group, .dat secrets, .dat words, .dat wrong, .dat cut, .dat odd, .dat loose, .dat last, .dat found2, .dat row2], tg_name (by decide), ?_⟩
        refine aw_if (tw_not (tw_B (ew_call (aw_cons (ew_tupleD (ew_var rfl)) (aw_cons (ew_tup (aw_cons (ew_tup (aw_cons ew_int aw_nil)) (aw_cons ew_int aw_nil))) aw_nil))))) (RaiseW.tt0 hx) h (fun h => ?_) (fun h => ?_)
        · exact aw_ret hr ew_bl (RaiseW.tt0 hx) h
        · refine aw_next ?_
          exact at_wk (.keep (.keep (.keep (.keep (.keep (.keep (.keep (.keep (.keep (.keep (.keep (.keep (.drop .nil))))))))))))) (hn _ h)
      · refine aw_seq ?_
        refine aw_asg (Γ' := fun found3 => [.pool, .dat n, .dat ties, .dat group, .dat secrets, .dat words, .dat wrong, .dat cut, .dat odd, .dat loose, .dat last, .dat found3, .no]) (fun _ => rfl) (Nw.fz (nw_lst (aw_cons (ew_call (aw_cons (ew_var rfl) (aw_cons (ew_var rfl) (aw_cons (ew_var rfl) (aw_cons (ew_var rfl) (aw_cons (ew_var rfl) aw_nil)))))) (aw_cons (ew_call (aw_cons (ew_var rfl) (aw_cons (ew_var rfl) (aw_cons (ew_var rfl) (aw_cons (ew_ix (Ew.s (ew_var rfl)) ew_int) (aw_cons (ew_var rfl) aw_nil)))))) aw_nil)))) (RaiseW.tt0 hx) h (fun found3 h => ?_)
        refine aw_seq ?_
        refine aw_for (σT := Unit) (vs := [12]) (fun s_3 => [.pool, .dat n, .dat ties, .dat group, .dat secrets, .dat words, .dat wrong, .dat cut, .dat odd, .dat loose, .dat last, .dat found3, .no]) (.keep (.keep (.keep (.keep (.keep (.keep (.keep (.keep (.keep (.keep (.keep (.keep (.keep .nil))))))))))))) (fw_seq (ew_var rfl)) (fun F0 D => RetOk C B F0 D rt) (rok_chain hr) hx h (fun F0 row3 s_3 nx bk D hr hx hn hc hb h => ?_) (fun s_3 h => ?_)
        · refine ⟨[.pool, .dat n, .dat ties, .dat group, .dat secrets, .dat words, .dat wrong, .dat cut, .dat odd, .dat loose, .dat last, .dat found3, .dat row3], tg_name (by decide), ?_⟩
          refine aw_if (tw_not (tw_B (ew_call (aw_cons (ew_tupleD (ew_var rfl)) (aw_cons (ew_tup (aw_cons (ew_tup (aw_cons ew_int aw_nil)) (aw_cons ew_int aw_nil))) aw_nil))))) (RaiseW.tt0 hx) h (fun h => ?_) (fun h => ?_)
          · exact aw_ret hr ew_bl (RaiseW.tt0 hx) h
          · refine aw_next ?_
            exact at_wk (.keep (.keep (.keep (.keep (.keep (.keep (.keep (.keep (.keep (.keep (.keep (.keep (.drop .nil))))))))))))) (hn _ h)
        · refine aw_seq ?_
          refine aw_asg (Γ' := fun found4 => [.pool, .dat n, .dat ties, .dat group, .dat secrets, .dat words, .dat wrong, .dat cut, .dat odd, .dat loose, .dat last, .dat found4, .no]) (fun _ => rfl) (Nw.fz (nw_lst (aw_cons (ew_call (aw_cons (ew_var rfl) (aw_cons (ew_var rfl) (aw_cons (ew_var rfl) (aw_cons (ew_ix (Ew.s (ew_var rfl)) ew_int) (aw_cons (ew_var rfl) aw_nil)))))) (aw_cons (ew_call (aw_cons (ew_var rfl) (aw_cons (ew_var rfl) (aw_cons (ew_var rfl) (aw_cons (ew_ix (Ew.s (ew_var rfl)) ew_int) (aw_cons (ew_ix (Ew.s (ew_var rfl)) ew_int) aw_nil)))))) aw_nil)))) (RaiseW.tt0 hx) h (fun found4 h => ?_)
          refine aw_seq ?_
          refine aw_for (σT := Unit) (vs := [12]) (fun s_4 => [.pool, .dat n, .dat ties, .dat group, .dat secrets, .dat words, .dat wrong, .dat cut, .dat odd, .dat loose, .dat last, .dat found4, .no]) (.keep (.keep (.keep (.keep (.keep (.keep (.keep (.keep (.keep (.keep (.keep (.keep (.keep .nil))))))))))))) (fw_seq (ew_var rfl)) (fun F0 D => RetOk C B F0 D rt) (rok_chain hr) hx h (fun F0 row4 s_4 nx bk D hr hx hn hc hb h => ?_) (fun s_4 h => ?_)
          · refine ⟨[.pool, .dat n, .dat ties, .dat group, .dat secrets, .dat words, .dat wrong, .dat cut, .dat odd, .dat loose, .dat last, .dat found4, .dat row4], tg_name (by decide), ?_⟩
            refine aw_if (tw_not (tw_B (ew_call (aw_cons (ew_tupleD (ew_var rfl)) (aw_cons (ew_tup (aw_cons (ew_tup (aw_cons ew_int aw_nil)) (aw_cons (ew_ix (Ew.s (ew_var rfl)) ew_int) aw_nil))) aw_nil))))) (RaiseW.tt0 hx) h (fun h => ?_) (fun h => ?_)
            · exact aw_ret hr ew_bl (RaiseW.tt0 hx) h
            · refine aw_next ?_
              exact at_wk (.keep (.keep (.keep (.keep (.keep (.keep (.keep (.keep (.keep (.keep (.keep (.keep (.drop .nil))))))))))))) (hn _ h)
          · refine aw_seq ?_
            refine aw_if (tw_not (tw_B (ew_call (aw_cons (ew_tupleD (ew_call (aw_cons (ew_var rfl) (aw_cons (ew_var rfl) (aw_cons (ew_var rfl) (aw_cons (ew_var rfl) (aw_cons (ew_ix (Ew.s (ew_var rfl)) ew_int) aw_nil))))))) (aw_cons (ew_tup (aw_cons (ew_tup (aw_cons ew_int aw_nil)) (aw_cons (ew_ix (Ew.s (ew_var rfl)) ew_int) aw_nil))) aw_nil))))) (RaiseW.tt0 hx) h (fun h => ?_) (fun h => ?_)
            · exact aw_ret hr ew_bl (RaiseW.tt0 hx) h
            · refine aw_next ?_
              exact aw_ret hr (ew_call (aw_cons (ew_tupleD (ew_call (aw_cons (ew_var rfl) (aw_cons (ew_var rfl) (aw_cons (ew_var rfl) (aw_cons (ew_var rfl) (aw_cons (ew_var rfl) aw_nil))))))) (aw_cons (ew_tup (aw_cons (ew_tup aw_nil) (aw_cons ew_int aw_nil))) aw_nil))) (RaiseW.tt0 hx) h
abbrev N_law : List Str := ["script", "pool", "n", "ties", "group", "secrets", "words", "counts", "unseen", "k", "pair"]
def t_law (K : PySem.W.Frag) (w : World) (sp__law_all_words_fit : Sp) (sp__law_group : Sp) (sp__law_pool : Sp) (sp__law_refused : Sp) (sp__law_some_words_fit : Sp) (sp__law_take : Sp) (sp__law_ties : Sp) (sp__law_ways : Sp) (E : XK) : TS :=
  (tSeq (tAsg (tCall sp__law_pool [] E (tCons (tVar 0) tNil)) (gName 1))
    (tSeq (tAsg (tOp (rAddA K) (tC (.int 2)) (tCall sp__law_take [] E (tCons (tVar 1) (tCons (tC (.int 5)) tNil)))) (gName 2))
    (tSeq (tAsg (tCall sp__law_ties [] E (tCons (tVar 1) (tCons (tVar 2) tNil))) (gName 3))
    (tSeq (tAsg (tCall sp__law_group [] E (tCons (tVar 1) (tCons (tVar 2) tNil))) (gName 4))
    (tSeq (tAsg (tLc (iRng1 (tCons (tVar 2) tNil)) (gName 9) tYes (tCall sp__law_take [] E0 (tCons (tVar 1) (tCons (tC (.int 2)) tNil))) [9]) (gName 5))
    (tSeq (tAsg (tLc (iRng1 (tCons (tVar 2) tNil)) (gName 9) tYes (tCall sp__law_take [] E0 (tCons (tVar 1) (tCons (tC (.int 2)) tNil))) [9]) (gName 6))
    (tSeq (tAsg (tCall sp__law_ways [] E (tCons (tVar 3) (tCons (tVar 4) tNil))) (gName 7))
    (tSeq (tAsg (tLc (iSeq K (tVar 3)) (gName 10) (tAnd (tTest (tOp (rNiA K) (tOp (rIx K) (tVar 10) (tC (.int 0))) (tVar 4))) (tTest (tOp (rNiA K) (tOp (rIx K) (tVar 10) (tC (.int 1))) (tVar 4)))) (tVar 10) [10]) (gName 8))
    (tSeq (tIfS (tTest (tOp rLeI (tOp (rAddA K) (tVar 2) (tCB (rLenA K) (tCons (tVar 8) tNil))) (tC (.int 9)))) (tIfS (tNot (tB (tCall sp__law_all_words_fit [] E (tCons (tVar 1) (tCons (tVar 2) (tCons (tVar 3) (tCons (tVar 4) (tCons (tVar 5) (tCons (tVar 7) tNil))))))))) (tRet (tC (.bl false))) tNext) (tIfS (tNot (tB (tCall sp__law_some_words_fit [] E (tCons (tVar 1) (tCons (tVar 2) (tCons (tVar 3) (tCons (tVar 4) (tCons (tVar 5) (tCons (tVar 7) tNil))))))))) (tRet (tC (.bl false))) tNext))
    (tRet (tCall sp__law_refused [] E (tCons (tVar 1) (tCons (tVar 2) (tCons (tVar 3) (tCons (tVar 4) (tCons (tVar 5) (tCons (tVar 6) tNil)))))))))))))))))
@[irreducible] def W_law (rt : PyData → Prop) (er : XP) : Prop :=
  W__law_take (.int 5) (fun t1 => addW (.int 2) t1 fun n => W__law_ties n (fun ties => W__law_group n (fun group => rngW n fun it1 => lcMW it1 (fun k1 Y => W__law_take (.int 2) (fun t5 => Y t5) noX) fun l1 => fzW l1 fun secrets => rngW n fun it2 => lcMW it2 (fun k2 Y2 => W__law_take (.int 2) (fun t7 => Y2 t7) noX) fun l2 => fzW l2 fun words => W__law_ways ties group (fun counts => seqW ties fun l3 => lcW l3 (fun pair Y3 N3 => andW (fun k3 => seqW pair fun l4 => ixW l4 (.int 0) fun t10 => seqW group fun l5 => niW t10 l5 fun t11 => boolW t11 fun b1 => k3 b1) (fun k4 => seqW pair fun l6 => ixW l6 (.int 1) fun t12 => seqW group fun l7 => niW t12 l7 fun t13 => boolW t13 fun b2 => k4 b2) fun b3 => iteW b3 (Y3 pair) N3) fun l8 => fzW l8 fun unseen => joinW (fun k5 => seqW unseen fun l9 => lenW l9 fun t15 => addW n t15 fun t16 => leW t16 (.int 9) fun t17 => boolW t17 fun b4 => iteW b4 (W__law_all_words_fit n ties group secrets counts (fun t18 => boolW t18 fun b5 => iteW (!b5) (rt (.bool false)) (k5)) noX) (W__law_some_words_fit n ties group secrets counts (fun t19 => boolW t19 fun b6 => iteW (!b6) (rt (.bool false)) (k5)) noX)) (W__law_refused n ties group secrets words (fun t20 => rt t20) noX)) noX) noX) noX) noX
theorem P_law (hw : W_law (fun d => d = .bool true) noX) (vs : List V) (H : Hp) (Q : VK) (E : XK) (h : sp_law K vs H Q E) : t_law K w (spP A Pl (vl5 W__law_all_words_fit)) (spP A Pl (vl1 W__law_group)) (sp__law_pool K) (spP A Pl (vl5 W__law_refused)) (spP A Pl (vl5 W__law_some_words_fit)) (spP A Pl (vl1 W__law_take)) (spP A Pl (vl1 W__law_ties)) (spF A (vl2 W__law_ways)) E { nx := fun _ H' => Q .non H', rt := Q } (L2.start N_law vs) H := by
  obtain ⟨a, ns, rfl, hz, hl, hq⟩ := h
  refine law_pool (N := N_law) (by decide) hz hl hq fun p B D hF hr => ?_
  generalize plC p = C at hF hr ⊢
  have hx : ∀ F0, RaiseW A C B F0 E noX := fun _ _ _ _ _ _ _ _ _ z => z.elim
  unfold W_law at hw
  generalize (fun d => d = PyData.bool true) = rt at hw hr
  generalize hF0 : (fun _ => none : Hp) = F0 at hr ⊢
  replace hx := hx F0
  have h := hw
  show At C B F0 [.no, .pool, .no, .no, .no, .no, .no, .no, .no, .no, .no] _
  refine aw_seq ?_
  refine aw_asg (Γ' := fun n => [.no, .pool, .dat n, .no, .no, .no, .no, .no, .no, .no, .no]) (fun _ => rfl) (ew_op ov_add ew_int (ew_callP hF rfl (aw_cons ew_int aw_nil))) (RaiseW.tt0 hx) h (fun n h => ?_)
  refine aw_seq ?_
  refine aw_asg (Γ' := fun ties => [.no, .pool, .dat n, .dat ties, .no, .no, .no, .no, .no, .no, .no]) (fun _ => rfl) (ew_callP hF rfl (aw_cons (ew_var rfl) aw_nil)) (RaiseW.tt0 hx) h (fun ties h => ?_)
  refine aw_seq ?_
  refine aw_asg (Γ' := fun group => [.no, .pool, .dat n, .dat ties, .dat group, .no, .no, .no, .no, .no, .no]) (fun _ => rfl) (ew_callP hF rfl (aw_cons (ew_var rfl) aw_nil)) (RaiseW.tt0 hx) h (fun group h => ?_)
  refine aw_seq ?_
  refine aw_asg (Γ' := fun secrets => [.no, .pool, .dat n, .dat ties, .dat group, .dat secrets, .no, .no, .no, .no, .no]) (fun _ => rfl) (Nw.fz (nw_lcM (Fw.it (fw_rng1 (ew_var rfl))) (fun x Y h => ⟨_, _, tg_name (by decide), (ew_callP hF rfl (aw_cons ew_int aw_nil)), h⟩))) (RaiseW.tt0 hx) h (fun secrets h => ?_)
  refine aw_seq ?_
  refine aw_asg (Γ' := fun words => [.no, .pool, .dat n, .dat ties, .dat group, .dat secrets, .dat words, .no, .no, .no, .no]) (fun _ => rfl) (Nw.fz (nw_lcM (Fw.it (fw_rng1 (ew_var rfl))) (fun x Y h => ⟨_, _, tg_name (by decide), (ew_callP hF rfl (aw_cons ew_int aw_nil)), h⟩))) (RaiseW.tt0 hx) h (fun words h => ?_)
  refine aw_seq ?_
  refine aw_asg (Γ' := fun counts => [.no, .pool, .dat n, .dat ties, .dat group, .dat secrets, .dat words, .dat counts, .no, .no, .no]) (fun _ => rfl) (ew_call (aw_cons (ew_var rfl) (aw_cons (ew_var rfl) aw_nil))) (RaiseW.tt0 hx) h (fun counts h => ?_)
  refine aw_seq ?_
  refine aw_asg (Γ' := fun unseen => [.no, .pool, .dat n, .dat ties, .dat group, .dat secrets, .dat words, .dat counts, .dat unseen, .no, .no]) (fun _ => rfl) (Nw.fz (nw_lc (iw_seq (Ew.s (ew_var rfl))) (fun x Y N h => ⟨_, _, _, tg_name (by decide), (tw_and (tw_test (ew_ni (ew_ix (Ew.s (ew_var rfl)) ew_int) (Ew.s (ew_var rfl)))) (tw_test (ew_ni (ew_ix (Ew.s (ew_var rfl)) ew_int) (Ew.s (ew_var rfl))))), (ew_var rfl), h⟩))) (RaiseW.tt0 hx) h (fun unseen h => ?_)
  refine aw_join (J := fun (k : Prop) Z => k → At C B F0 [.no, .pool, .dat n, .dat ties, .dat group, .dat secrets, .dat words, .dat counts, .dat unseen, .no, .no] Z) h (fun  h => ?_) (fun k' hk h => ?_)
  · exact aw_ret hr (ew_callP hF rfl (aw_cons (ew_var rfl) (aw_cons (ew_var rfl) (aw_cons (ew_var rfl) (aw_cons (ew_var rfl) (aw_cons (ew_var rfl) aw_nil)))))) (RaiseW.tt0 hx) h
  · refine aw_if (tw_test (ew_op ov_le (ew_op ov_add (ew_var rfl) (ew_len (Ew.s (ew_var rfl)))) ew_int)) (RaiseW.tt0 hx) h (fun h => ?_) (fun h => ?_)
    · refine aw_if (tw_not (tw_B (ew_callP hF rfl (aw_cons (ew_var rfl) (aw_cons (ew_var rfl) (aw_cons (ew_var rfl) (aw_cons (ew_var rfl) (aw_cons (ew_var rfl) aw_nil)))))))) (RaiseW.tt0 hx) h (fun h => ?_) (fun h => ?_)
      · exact aw_ret hr ew_bl (RaiseW.tt0 hx) h
      · refine aw_next ?_
        exact at_wk (.keep (.keep (.keep (.keep (.keep (.keep (.keep (.keep (.keep (.keep (.keep .nil))))))))))) (hk  h)
    · refine aw_if (tw_not (tw_B (ew_callP hF rfl (aw_cons (ew_var rfl) (aw_cons (ew_var rfl) (aw_cons (ew_var rfl) (aw_cons (ew_var rfl) (aw_cons (ew_var rfl) aw_nil)))))))) (RaiseW.tt0 hx) h (fun h => ?_) (fun h => ?_)
      · exact aw_ret hr ew_bl (RaiseW.tt0 hx) h
      · refine aw_next ?_
        exact at_wk (.keep (.keep (.keep (.keep (.keep (.keep (.keep (.keep (.keep (.keep (.keep .nil))))))))))) (hk  h)
end Eh

namespace Eh
open PySem PySem.Spec PyProof.Rows L2
theorem join_ok {α : Type} {f : (α → Prop) → Prop} {k : α → Prop} (P : α → Prop) (h1 : ∀ k', (∀ x, P x → k' x) → f k') (h2 : ∀ x, P x → k x) : joinW f k := h1 k h2
section
variable {rt : PyData → Prop} {rn : List PyData → Prop} {er : XP} {d e f : PyData} {n m a b : Nat} {cs bs w : List Nat} {ts : List Edge} {g : List Nat} {ps : List (Nat × Nat)}
/-! bits and masks -/
theorem S_bits (n a : Nat) : (S n fun k => bt a k * 2 ^ k) = a % 2 ^ n := by
  induction n with
  | zero => rw [Nat.pow_zero, Nat.mod_one]; rfl
  | succ n ih =>
    rw [S_succ, ih, Nat.mod_pow_succ, bt_div, Nat.mul_comm]
theorem bits_mask (n : Nat) (f : Nat → Nat) (hf : ∀ k, f k < 2) : (S n fun k => f k * 2 ^ k) < 2 ^ n ∧ ∀ v, v < n → bt (S n fun k => f k * 2 ^ k) v = f v := by
  induction n with
  | zero => exact ⟨by show 0 < 2 ^ 0; decide, fun v hv => absurd hv (Nat.not_lt_zero _)⟩
  | succ n ih =>
    rw [S_succ]
    obtain ⟨h1, h2⟩ := ih
    have hfn := hf n
    generalize (S n fun k => f k * 2 ^ k) = s at *
    have e : s + f n * 2 ^ n = 2 ^ n * f n + s := by rw [Nat.mul_comm, Nat.add_comm]
    rw [e]
    refine ⟨?_, fun v hv => ?_⟩
    · rw [Nat.pow_succ]
      have : 2 ^ n * f n ≤ 2 ^ n * 1 := Nat.mul_le_mul_left _ (by omega)
      omega
    · unfold bt
      rw [Nat.testBit_two_pow_mul_add _ h1]
      by_cases c : v < n
      · rw [if_pos c]; exact h2 v c
      · have : v = n := by omega
        subst this
        rw [if_neg c, Nat.sub_self]
        have : f v = 0 ∨ f v = 1 := by omega
        rcases this with z | z <;> rw [z] <;> rfl
theorem bits_of_mask (hb : Bits n bs) : ∃ a, a < 2 ^ n ∧ bs = bitsN n a := by
  obtain ⟨h1, h2⟩ := bits_mask n (fun k => bs.getD k 0) (fun k => by
    rw [List.getD_eq_getElem?_getD]
    cases e : bs[k]? with
    | none => decide
    | some x => exact hb.2 x (List.mem_of_getElem? e))
  refine ⟨_, h1, ?_⟩
  unfold bitsN
  refine List.ext_getElem? fun i => ?_
  rw [List.getElem?_map]
  by_cases c : i < n
  · rw [List.getElem?_range c, getD_some (d := 0) (by rw [hb.1]; exact c)]
    exact congrArg some (h2 i c).symm
  · rw [List.getElem?_eq_none (by rw [hb.1]; omega), List.getElem?_eq_none (by simpa using c)]; rfl
theorem w_law_mask (h6 : n ≤ 6) (ha : a < 2 ^ n) (h : rt (iD a)) : W__law_mask (bitL (bitsN n a)) rt er := by
  unfold W__law_mask
  have hl := (bitsN_ok n a).1
  show rngW (.int (((bitsN n a).map iD).length : Nat)) _
  rw [List.length_map, hl]
  refine rng_ok (by omega) (lcM_ok iD (fun k => iD (bt a k * 2 ^ k)) (by simp; omega) (fun k hk Y hY => ?_) ?_)
  · have hk := List.mem_range.mp hk
    refine ix_ok (bit_at (by rw [hl]; exact hk)) ?_
    rw [bitsN_at hk]
    refine ⟨⟨by omega, by omega, by have := bt_lt a k; show ((bt a k : Nat) : Int).natAbs < _; omega⟩, ?_⟩
    show Y (.int (((bt a k : Nat) : Int) * 2 ^ ((k : Nat) : Int).toNat))
    rw [Int.toNat_natCast]
    have : ((bt a k : Nat) : Int) * 2 ^ k = ((bt a k * 2 ^ k : Nat) : Int) := by push_cast; rfl
    rw [this]; exact hY
  · have e : ((List.range n).map fun k => iD (bt a k * 2 ^ k)) = ((List.range n).map fun k => bt a k * 2 ^ k).map iD := by rw [List.map_map]; rfl
    rw [e]
    refine sumN_ok ?_
    have := S_bits n a
    unfold S at this
    rw [this, Nat.mod_eq_of_lt ha]; exact h
theorem sameB_comm (hg : ∀ x ∈ g, x < n) : sameB n ts g b a = sameB n ts g a b := by
  rw [Bool.eq_iff_iff, same_ev hg, same_ev hg, Nat.xor_comm]
theorem due_eq (t : Ties n ts) (hg : ∀ x ∈ g, x < n) (ha : a < 2 ^ n) (hb : b < 2 ^ n) : cnt (esR ts g) (b ^^^ a) = if sameB n ts g a b = true then 2 ^ kF (esR ts g) else 0 := by
  obtain ⟨h1, h2⟩ := cnt_eq (n := n) (es := esR ts g) (es_lt t) (b ^^^ a) (Nat.xor_lt_two_pow hb ha)
  by_cases c : sameB n ts g a b = true
  · rw [if_pos c, h1 (by rw [Nat.xor_comm]; exact (same_ev hg).mp c)]
  · rw [if_neg c, h2 fun z => c ((same_ev hg).mpr (by rw [Nat.xor_comm]; exact z))]
theorem w_way_fits (t : Ties n ts) (hg : Lot n g) (h2 : 2 ≤ n) (h6 : n ≤ 6) (ha : a < 2 ^ n) (hb : b < 2 ^ n) (h : rt (.bool true)) : W__law_way_fits (iD n) (tiesD ts) (lotN g) (bitL (bitsN n a)) (bitL (bitsN n b)) (iD (cnt (esR ts g) (b ^^^ a))) rt er := by
  unfold W__law_way_fits
  rw [due_eq t hg.1 ha hb]
  dsimp only [fzW, seqW]
  refine w_take (m := 3) (by decide) (by decide) fun r hr => ?_
  refine join_ok (α := PyData) (fun x => x = iD (if sameB n ts g a b = true then 2 ^ kF (esR ts g) else 0)) (fun k' hk => ?_) fun x hx => ?_
  · refine eqI_ok (ite_ok (fun _ => ?_) fun _ => eqI_ok (ite_ok (fun _ => ?_) fun _ => ?_))
    · exact w_ways_said t hg h2 h6 bitsD_l bitsD_t (hk _ rfl)
    · exact w_ways_said t hg h2 h6 bitsD_t bitsD_l (hk _ rfl)
    · exact w_ways_said t hg h2 h6 bitsD_l bitsD_l (hk _ rfl)
  · subst hx
    refine eqSelf_ok (shd_lst _) (by decide) ?_
    refine iteT rfl ?_
    refine eqSelf_ok (shd_lst _) (by decide) ?_
    exact iteT rfl (w_same 9 (by unfold sameD; rfl) h)
/-! all words -/
theorem sum_perm {l l' : List Nat} (h : l.Perm l') (f : Nat → Nat) : (l.map f).sum = (l'.map f).sum := (h.map f).sum_nat
theorem xor_range {n b : Nat} (hb : b < 2 ^ n) : ((List.range (2 ^ n)).map fun m => m ^^^ b).Perm (List.range (2 ^ n)) := by
  have inv : ∀ m : Nat, m ^^^ b ^^^ b = m := fun m => by rw [Nat.xor_assoc, Nat.xor_self, Nat.xor_zero]
  have hn : ((List.range (2 ^ n)).map fun m => m ^^^ b).Nodup := List.pairwise_map.mpr (List.nodup_range.imp fun {x y} hne z => hne (by rw [← inv x, z, inv y]))
  refine (List.perm_ext_iff_of_nodup hn List.nodup_range).mpr fun x => ?_
  rw [List.mem_map, List.mem_range]
  constructor
  · rintro ⟨m, hm, rfl⟩
    exact Nat.xor_lt_two_pow (List.mem_range.mp hm) hb
  · exact fun hx => ⟨x ^^^ b, List.mem_range.mpr (Nat.xor_lt_two_pow hx hb), inv x⟩
theorem S_xor {n b : Nat} (hb : b < 2 ^ n) (f : Nat → Nat) : (S (2 ^ n) fun m => f (m ^^^ b)) = S (2 ^ n) f := by
  unfold S
  have := sum_perm (xor_range hb) f
  rw [List.map_map] at this
  exact this
theorem S_add (n : Nat) (f h : Nat → Nat) : (S n fun v => f v + h v) = S n f + S n h := by
  induction n with
  | zero => rfl
  | succ n ih => rw [S_succ, S_succ, S_succ, ih]; omega
theorem S_cnt {n : Nat} : ∀ {es : List Edge}, (∀ e ∈ es, e.1 < n ∧ e.2 < n) → S (2 ^ n) (cnt es) = 2 ^ es.length
  | [], _ => by
    show (S (2 ^ n) fun m => if m = 0 then 1 else 0) = 1
    rw [S_one (i := 0) (Nat.pow_pos (by decide)) fun v _ hne => if_neg hne]; rfl
  | e :: es, he => by
    have ih := S_cnt (n := n) (es := es) fun x hx => he x (List.mem_cons_of_mem _ hx)
    obtain ⟨h1, h2⟩ := he e List.mem_cons_self
    show (S (2 ^ n) fun m => cnt es m + cnt es (m ^^^ both e)) = 2 ^ (es.length + 1)
    rw [S_add, S_xor (both_lt h1 h2), ih, Nat.pow_succ]; omega
theorem unseen_ok {k : List PyData → Prop} (t : Ties n ts) (hk : k ((hid ts g).map prD)) : lcW (ts.map prD) (fun pair Y N => andW (fun k1 => seqW pair fun l3 => ixW l3 (.int 0) fun t9 => seqW (lotN g) fun l4 => niW t9 l4 fun t10 => boolW t10 fun b2 => k1 b2) (fun k2 => seqW pair fun l5 => ixW l5 (.int 1) fun t11 => seqW (lotN g) fun l6 => niW t11 l6 fun t12 => boolW t12 fun b3 => k2 b3) fun b4 => iteW b4 (Y pair) N) k := by
  have tl := t.len
  refine lc_ok prD prD (fun p => !decide (p.1 ∈ g) && !decide (p.2 ∈ g)) (by omega) (fun p hp Y N hY hN => ?_) hk
  refine andI_ok (!decide (p.1 ∈ g)) (!decide (p.2 ∈ g)) (fun k hk => ix_ok (n := 0) rfl (niN_ok hk)) (fun _ k hk => ix_ok (n := 1) rfl (niN_ok hk)) (fun e1 e2 => hY (by rw [e1, e2]; rfl)) fun e => hN ?_
  rcases e with e | e
  · rw [e, Bool.false_and]
  · rw [e, Bool.and_false]
theorem w_all_words (t : Ties n ts) (hg : Lot n g) (h2 : 2 ≤ n) (h6 : n ≤ 6) (hps : Cn n (cnt (esR ts g)) ps) (ha : a < 2 ^ n) (h : rt (.bool true)) : W__law_all_words_fit (iD n) (tiesD ts) (lotN g) (bitL (bitsN n a)) (ctD ps) rt er := by
  unfold W__law_all_words_fit
  have hp : 2 ^ n ≤ 64 := Nat.pow_le_pow_right (by decide) h6
  refine shl1_ok (by omega) (rng_ok (by omega) (for_ok iD (fun i st => st = iD (S i fun m => cnt (esR ts g) (m ^^^ a))) rfl ?_ ?_))
  · rintro i m st hx rfl nx bk hnx hbk
    have hi : i < 2 ^ n := by simpa using (List.getElem?_eq_some_iff.mp hx).1
    rw [List.getElem?_range hi] at hx
    cases hx
    have hxa := Nat.xor_lt_two_pow hi ha
    refine ct_ok (w_law_mask h6 ha (bxor_ok (by omega) (by omega) (dget_ok (hps.getD hxa) (addN_ok (w_law_bits h6 (w_way_fits t hg h2 h6 ha hi (iteF rfl (hnx _ ?_))))))))
    rw [S_succ]
  · rintro st rfl
    rw [List.length_range, S_xor ha (cnt (esR ts g)), S_cnt (es_lt t)]
    refine unseen_ok t ?_
    dsimp only [fzW, seqW, lenW]
    have hl : (hid ts g).length ≤ ts.length := List.length_filter_le _ _
    have tl := t.len
    rw [List.length_map]
    refine shl1_ok (by omega) (eqN_ok ?_)
    have e5 : (esR ts g).length = (hid ts g).length := by unfold esR; rw [List.length_reverse]
    rw [e5, decide_eq_true rfl]; exact h
/-! some words -/
theorem ev_both (t : Ties n ts) {e : Edge} (he : e ∈ esR ts g) (r : Nat) : Pr n (labT ts g) (both e) r = 0 := by
  have := es_lt t e he
  have hl : labT ts g e.1 = labT ts g e.2 := lab_edge he
  rw [Pr_both this.1 this.2, hl]
  split <;> rfl
theorem xor_shift (a b s : Nat) : (b ^^^ s) ^^^ (a ^^^ s) = b ^^^ a := by
  rw [Nat.xor_comm a s, ← Nat.xor_assoc, Nat.xor_assoc b s s, Nat.xor_self, Nat.xor_zero]
theorem bit_lt {i : Nat} (h : i < n) : 2 ^ i < 2 ^ n := Nat.pow_lt_pow_right (by decide) h
theorem w_some_words (t : Ties n ts) (hg : Lot n g) (h2 : 2 ≤ n) (h6 : n ≤ 6) (hps : Cn n (cnt (esR ts g)) ps) (ha : a < 2 ^ n) (h : rt (.bool true)) : W__law_some_words_fit (iD n) (tiesD ts) (lotN g) (bitL (bitsN n a)) (ctD ps) rt er := by
  unfold W__law_some_words_fit
  have hp : 2 ^ n ≤ 64 := Nat.pow_le_pow_right (by decide) h6
  have hp0 : 0 < 2 ^ n := Nat.pow_pos (by decide)
  have x2 : ∀ {u v : Nat}, u < 2 ^ n → v < 2 ^ n → u ^^^ v < 2 ^ n := fun h1 h2 => Nat.xor_lt_two_pow h1 h2
  have s : ∀ {u : Nat}, u < 2 ^ n → u < 64 := fun h => by omega
  refine w_law_mask h6 ha ?_
  show forW _ _ (ts.map prD) (iD a)
  refine for_ok prD (fun _ st => ∃ m, st = iD m ∧ m < 2 ^ n ∧ Ev n (labT ts g) (m ^^^ a)) ⟨a, rfl, ha, fun r => by rw [Nat.xor_self]; unfold Pr; rw [S_zero fun v _ => by rw [bt_zero]; split <;> rfl]⟩ ?_ ?_
  · rintro i e st he ⟨m, rfl, hm, hev⟩ nx bk hnx hbk
    have hem := List.mem_of_getElem? he
    have heo := t.ok e hem
    have hbt : both e < 2 ^ n := both_lt (by omega) heo.2
    have keep := hnx _ ⟨m, rfl, hm, hev⟩
    refine and_ok (!decide (e.1 ∈ g)) (fun k hk => ix_ok (n := 0) rfl (niN_ok hk)) (fun c1 => ?_) fun _ => iteF rfl keep
    refine and_ok (!decide (e.2 ∈ g)) (fun k hk => ix_ok (n := 1) rfl (niN_ok hk)) (fun c2 => ?_) fun _ => iteF rfl keep
    refine w_take (m := 2) (by decide) (by decide) fun r hr => eqI_ok (ite_ok (fun _ => ?_) fun _ => keep)
    refine ix_ok (n := 0) rfl (shl1_ok (by omega) (ix_ok (n := 1) rfl (shl1_ok (by omega) (bor_ok (c := both e) (or_pow _ (by omega) _ (by omega) (by omega)) ?_))))
    refine bxor_ok (s hm) (s hbt) (hnx _ ⟨_, rfl, x2 hm hbt, fun r => ?_⟩)
    have hee : e ∈ esR ts g := mem_es.mpr ⟨hem, (fun z => by rw [decide_eq_true z] at c1; cases c1), (fun z => by rw [decide_eq_true z] at c2; cases c2)⟩
    have e3 : m ^^^ both e ^^^ a = (m ^^^ a) ^^^ both e := by rw [Nat.xor_assoc, Nat.xor_comm (both e) a, ← Nat.xor_assoc]
    rw [e3, Pr_xor, hev r, ev_both t hee r]
  · rintro st ⟨m, rfl, hm, hev⟩
    refine w_take (by omega) (by omega) fun i hi => shl1_ok (by omega) (w_take (by omega) (by omega) fun j hj => shl1_ok (by omega) ?_)
    have bi := bit_lt (n := n) hi
    have bj := bit_lt (n := n) hj
    refine bxor_ok (s hm) (s bi) (bxor_ok (s hm) (s bi) (bxor_ok (s (x2 hm bi)) (s bj) (shl1_ok (by omega) (w_take hp0 (by omega) fun r hr => ⟨by simp, ?_⟩))))
    show forW _ _ ([m, m ^^^ 2 ^ i, m ^^^ 2 ^ i ^^^ 2 ^ j, r].map iD) ()
    refine for_const iD (fun c hc nx bk hnx hbk => ?_) ?_
    · have hcn : c < 2 ^ n := by
        simp only [List.mem_cons, List.not_mem_nil, or_false] at hc
        rcases hc with rfl | rfl | rfl | rfl
        · exact hm
        · exact x2 hm bi
        · exact x2 (x2 hm bi) bj
        · exact hr
      exact ct_ok (w_law_mask h6 ha (bxor_ok (s hcn) (s ha) (dget_ok (hps.getD (x2 hcn ha)) (w_law_bits h6 (w_way_fits t hg h2 h6 ha hcn (iteF rfl hnx))))))
    · refine shl1_ok (by omega) (w_take hp0 (by omega) fun sh hsh => w_law_mask h6 ha (bxor_ok (s ha) (s hsh) (w_law_bits h6 (ct_ok (w_law_mask h6 ha (bxor_ok (s hm) (s ha) (dget_ok (hps.getD (x2 hm ha)) ?_)))))))
      have hpos : 0 < cnt (esR ts g) (m ^^^ a) := by
        rw [(cnt_eq (n := n) (es := esR ts g) (es_lt t) _ (x2 hm ha)).1 hev]
        exact Nat.pow_pos (by decide)
      refine iteT (decide_eq_true (by omega)) ?_
      refine bxor_ok (s hm) (s hsh) (w_law_bits h6 ?_)
      have := w_way_fits (rt := rt) (er := er) t hg h2 h6 (x2 ha hsh) (x2 hm hsh) h
      rw [xor_shift] at this
      exact this
/-! refusals -/
def RefF (n2 : Str) (ff : Option (List (Str × V))) (W : (PyData → Prop) → XP → Prop) : Prop := ∀ (rt2 : PyData → Prop) (er2 : XP), er2 n2 ff → W rt2 er2
theorem w_ref {u v x y z : PyData} {n2 : Str} {ff : Option (List (Str × V))} (h1 : RefF n2 ff (W_ways_said u v x y z))
    (h : catchW xn n2 "JointError" (sufW ff fun pl => isXW xn n2 "BadNumber" fun t4 => isXW xn n2 "BadCalls" fun t5 => isXW xn n2 "BadGroup" fun t6 => isXW xn n2 "BadRow" fun t7 => dispL [t4, t5, t6, t7] fun l2 => fzW l2 fun kinds => lstW kinds fun l3 => isXW xn n2 "BadDeals" fun t9 => isXW xn n2 "BadLine" fun t10 => isXW xn n2 "BadSteps" fun t11 => dispL [t9, t10, t11] fun l4 => catW l3 l4 fun l5 => fzW l5 fun kinds2 => lstW kinds2 fun l6 => isXW xn n2 "BadTable" fun t13 => isXW xn n2 "BadText" fun t14 => isXW xn n2 "BadWorlds" fun t15 => dispL [t13, t14, t15] fun l7 => catW l6 l7 fun l8 => fzW l8 fun kinds3 => lstW kinds3 fun l9 => isXW xn n2 "NothingDone" fun t17 => dispL [t17] fun l10 => catW l9 l10 fun l11 => fzW l11 fun kinds4 => lstW kinds4 fun l12 => isXW xn n2 "NotThere" fun t19 => isXW xn n2 "TooLarge" fun t20 => isVW xn n2 fun t21 => notW t21 fun t22 => dispL [t19, t20, t22] fun l13 => catW l12 l13 fun l14 => fzW l14 fun kinds5 => letW (.int 0) fun place => joinW (fun k1 => isXW xn n2 "BadRow" fun t25 => boolW t25 fun b1 => iteW b1 (plW n2 pl fun place3 => k1 place3) (k1 place)) fun place2 => seqW kinds5 fun l15 => lenW l15 fun t27 => rngW t27 fun it1 => lcW it1 (fun k2 Y N => seqW kinds5 fun l16 => ixW l16 k2 fun t28 => boolW t28 fun b2 => iteW b2 (Y k2) N) fun l17 => tupW l17 fun t29 => dispL [t29, place2] fun l18 => fzW l18 fun t30 => rt t30) (er n2 ff)) : W__law_refusal u v x y z rt er := by
  unfold W__law_refusal
  exact h1 _ _ h
abbrev tell (k : List Nat) (p : Int) : PyData := .list [.tuple (k.map iD), .int p]
theorem ref_num {u v x y z : PyData} (hd : ftB u 2 6 = false) (h : rt (tell [0] 0)) : W__law_refusal u v x y z rt er :=
  w_ref (n2 := "BadNumber") (ff := none) (fun rt2 er2 h => by unfold W_ways_said; exact w_round_num hd h) (catch_ok (by decide +kernel) (by decide +kernel) (suf_BadNumber h))
theorem ref_ties {v x y z : PyData} (h2 : 2 ≤ n) (h6 : n ≤ 6) (hd : BadTies n v) (h : rt (tell [1] 0)) : W__law_refusal (iD n) v x y z rt er :=
  w_ref (n2 := "BadCalls") (ff := none) (fun rt2 er2 h => by unfold W_ways_said; exact w_round_ties h2 h6 hd h) (catch_ok (by decide +kernel) (by decide +kernel) (suf_BadCalls h))
theorem ref_group {x y z : PyData} (t : Ties n ts) (h2 : 2 ≤ n) (h6 : n ≤ 6) (hx : lotB x n = false) (h : rt (tell [2] 0)) : W__law_refusal (iD n) (tiesD ts) x y z rt er :=
  w_ref (n2 := "BadGroup") (ff := none) (fun rt2 er2 h => by unfold W_ways_said; exact w_round h2 h6 t (w_check_group (fun e => by rw [hx] at e; cases e) fun _ => h)) (catch_ok (by decide +kernel) (by decide +kernel) (suf_BadGroup h))
theorem ref_one {y z : PyData} (t : Ties n ts) (h2 : 2 ≤ n) (h6 : n ≤ 6) (hg : Lot n g) {p : Int} (hy : BadBits n y p) (h : rt (tell [3] p)) : W__law_refusal (iD n) (tiesD ts) (lotN g) y z rt er :=
  w_ref (n2 := "BadRow") (ff := some [("place", V.int p)]) (fun rt2 er2 h => by unfold W_ways_said; exact w_round h2 h6 t (w_group hg (hy _ _ h))) (catch_ok (by decide +kernel) (by decide +kernel) ⟨rfl, suf_BadRow h⟩)
theorem ref_two {z : PyData} (t : Ties n ts) (h2 : 2 ≤ n) (h6 : n ≤ 6) (hg : Lot n g) {p : Int} (hz : BadBits n z p) (h : rt (tell [3] p)) : W__law_refusal (iD n) (tiesD ts) (lotN g) (bitL (bitsN n a)) z rt er :=
  w_ref (n2 := "BadRow") (ff := some [("place", V.int p)]) (fun rt2 er2 h => by unfold W_ways_said; exact w_round h2 h6 t (w_group hg (w_check_bits bitsD_l (bitsN_ok n a) (by omega) (hz _ _ h)))) (catch_ok (by decide +kernel) (by decide +kernel) ⟨rfl, suf_BadRow h⟩)
theorem ref_none (t : Ties n ts) (hg : Lot n g) (h2 : 2 ≤ n) (h6 : n ≤ 6) (h : rt (tell [] 0)) : W__law_refusal (iD n) (tiesD ts) (lotN g) (bitL (bitsN n a)) (bitL (bitsN n b)) rt er := by
  unfold W__law_refusal
  exact w_ways_said t hg h2 h6 bitsD_l bitsD_l ⟨by decide, ⟨by decide, h⟩⟩
theorem same_tell {k : List Nat} {p : Int} (hk : k.length ≤ 10) (h : rt (.bool true)) : W__law_same 9 (.tuple [.tuple (k.map iD), .int p]) (.tuple [.tuple (k.map iD), .int p]) rt er := by
  refine w_same 9 ?_ h
  have h8 : sameAll 7 (k.map iD) = true := by
    clear hk
    induction k with
    | nil => unfold sameAll; rfl
    | cons x w ih => rw [List.map_cons]; unfold sameAll; rw [ih]; unfold sameD; rfl
  unfold sameD sameAll sameAll sameAll sameD
  rw [h8, List.length_map, decide_eq_true (show k.length ≤ 1000 by omega)]; rfl
theorem two_rows {k : PyData} {body : PyData → Unit → (Unit → Prop) → (Unit → Prop) → Prop} {done : Unit → Prop} (hb : ∀ nx bk, nx () → body k () nx bk) (hd : done ()) : forW body done [k, k] () := hb _ _ (hb _ _ hd)
theorem w_refused (t : Ties n ts) (hg : Lot n g) (h2 : 2 ≤ n) (h6 : n ≤ 6) (h : rt (.bool true)) : W__law_refused (iD n) (tiesD ts) (lotN g) (bitL (bitsN n a)) (bitL (bitsN n b)) rt er := by
  unfold W__law_refused
  refine w_bad_number fun wrong hw => w_bad_ties t h2 h6 fun cut hcut => w_bad_group hg h6 fun odd hodd => ?_
  refine w_bad_bits (bitsN_ok n a) (by omega) fun first hfirst => w_bad_bits (bitsN_ok n b) (by omega) fun last hlast => ?_
  obtain ⟨o1, p1, rfl, ho1⟩ := hfirst
  obtain ⟨o2, p2, rfl, ho2⟩ := hlast
  refine ref_num hw (ref_num hw ⟨by decide, ?_⟩)
  refine two_rows (fun nx bk hnx => ⟨by decide, ⟨by decide, same_tell (k := [0]) (by decide) (iteF rfl hnx)⟩⟩) ?_
  refine ref_ties h2 h6 hcut (ref_ties h2 h6 hcut ⟨by decide, ?_⟩)
  refine two_rows (fun nx bk hnx => ⟨by decide, ⟨by decide, same_tell (k := [1]) (by decide) (iteF rfl hnx)⟩⟩) ?_
  refine ref_group t h2 h6 hodd (ix_ok (n := 0) rfl (ref_group t h2 h6 hodd ⟨by decide, ?_⟩))
  refine two_rows (fun nx bk hnx => ⟨by decide, ⟨by decide, same_tell (k := [2]) (by decide) (iteF rfl hnx)⟩⟩) ?_
  refine ix_ok (n := 0) rfl (ref_one t h2 h6 hg ho1 (ix_ok (n := 0) rfl (ix_ok (n := 0) rfl (ref_one t h2 h6 hg ho1 ⟨by simp, ?_⟩))))
  refine two_rows (fun nx bk hnx => ⟨by decide, ix_ok (n := 1) rfl ⟨by simp, same_tell (k := [3]) (by decide) (iteF rfl hnx)⟩⟩) ?_
  refine ix_ok (n := 0) rfl (ref_two t h2 h6 hg ho2 ⟨by decide, ix_ok (n := 1) rfl ⟨by simp, same_tell (k := [3]) (by decide) (iteF rfl ?_)⟩⟩)
  exact ref_none t hg h2 h6 ⟨by decide, ⟨by decide, same_tell (k := []) (by decide) h⟩⟩
end
theorem law96 : W_law (fun d => d = .bool true) noX := by
  unfold W_law
  refine w_take (m := 5) (by decide) (by decide) fun r hr => ?_
  show W__law_ties (.int (2 + (r : Int))) _ _
  rw [show (2 + (r : Int)) = ((2 + r : Nat) : Int) by omega]
  have h2 : 2 ≤ 2 + r := by omega
  have h6 : 2 + r ≤ 6 := by omega
  generalize hn : 2 + r = n at h2 h6
  have bits_of : ∀ {m : Nat} {rs : List Nat}, rs.length = m → (∀ (i : Nat) x r, (List.range m)[i]? = some x → rs[i]? = some r → r < 2) → Bits m rs := fun {m rs} hl hb => ⟨hl, fun b hb' => by
    obtain ⟨i, hi, e⟩ := List.getElem_of_mem hb'
    exact hb i i b (List.getElem?_range (by omega)) (by rw [List.getElem?_eq_getElem hi, e])⟩
  refine w_law_ties h2 h6 fun ts t => w_law_group h2 h6 fun g hg => ?_
  refine rng_ok (by omega) (lcM_any (xs := List.range n) iD iD (fun _ r => r < 2) (by simp; omega) (fun x _ Y hY => w_take (m := 2) (by decide) (by decide) fun r hr => hY r hr) fun ss hsl hsb => ?_)
  rw [List.length_range] at hsl
  obtain ⟨a, ha, rfl⟩ := bits_of_mask (bits_of hsl hsb)
  refine rng_ok (by omega) (lcM_any (xs := List.range n) iD iD (fun _ r => r < 2) (by simp; omega) (fun x _ Y hY => w_take (m := 2) (by decide) (by decide) fun r hr => hY r hr) fun ws hwl hwb => ?_)
  rw [List.length_range] at hwl
  obtain ⟨b, hb, rfl⟩ := bits_of_mask (bits_of hwl hwb)
  refine w_law_ways t h6 fun ps hps => unseen_ok t ?_
  have fin := w_refused (a := a) (b := b) (rt := fun d => d = PyData.bool true) (er := noX) t hg h2 h6 rfl
  have hl : (hid ts g).length ≤ ts.length := List.length_filter_le _ _
  have tl := t.len
  dsimp only [fzW, seqW, lenW]
  refine (show ∀ {f : Prop → Prop} {k : Prop}, (∀ k', (k → k') → (k' → f k')) → k → joinW f k from fun h hk => h _ id hk) (fun k' hk hk2 => ?_) fin
  show leW (.int ((n : Int) + (((hid ts g).map prD).length : Nat))) (.int 9) _
  refine ite_ok (fun _ => ?_) fun _ => ?_
  · exact w_all_words t hg h2 h6 hps ha (iteF rfl hk2)
  · exact w_some_words t hg h2 h6 hps ha (iteF rfl hk2)
end Eh

namespace Eh
open PySem PySem.Spec PyProof.Rows L2
def topS (i : Nat) : Stmt := PySem.Challenge.pw_everyhands_k96_whole_ways_by_all_coins.main.body.getD i (.Pass ⟨0, 0, 0, 0⟩)
abbrev s_is_integer : Stmt := topS 16
theorem sc_is_integer : FnScope N_is_integer ["value"] (defScope s_is_integer) := ⟨rfl, rfl, rfl, by decide +kernel, rfl, by decide +kernel, by decide +kernel⟩
abbrev s_is_from_to : Stmt := topS 18
theorem sc_is_from_to : FnScope N_is_from_to ["value", "least", "most"] (defScope s_is_from_to) := ⟨rfl, rfl, rfl, by decide +kernel, rfl, by decide +kernel, by decide +kernel⟩
abbrev s_check_number : Stmt := topS 19
theorem sc_check_number : FnScope N_check_number ["value", "least", "most"] (defScope s_check_number) := ⟨rfl, rfl, rfl, by decide +kernel, rfl, by decide +kernel, by decide +kernel⟩
abbrev s_is_lot : Stmt := topS 20
theorem sc_is_lot : FnScope N_is_lot ["value", "many"] (defScope s_is_lot) := ⟨rfl, rfl, rfl, by decide +kernel, rfl, by decide +kernel, by decide +kernel⟩
abbrev s_check_group : Stmt := topS 21
theorem sc_check_group : FnScope N_check_group ["value", "many"] (defScope s_check_group) := ⟨rfl, rfl, rfl, by decide +kernel, rfl, by decide +kernel, by decide +kernel⟩
abbrev s_check_numbers : Stmt := topS 22
theorem sc_check_numbers : FnScope N_check_numbers ["value", "many", "most"] (defScope s_check_numbers) := ⟨rfl, rfl, rfl, by decide +kernel, rfl, by decide +kernel, by decide +kernel⟩
abbrev s_are_pairs : Stmt := topS 23
theorem sc_are_pairs : FnScope N_are_pairs ["value", "people"] (defScope s_are_pairs) := ⟨rfl, rfl, rfl, by decide +kernel, rfl, by decide +kernel, by decide +kernel⟩
abbrev s_check_edges : Stmt := topS 24
theorem sc_check_edges : FnScope N_check_edges ["people", "value"] (defScope s_check_edges) := ⟨rfl, rfl, rfl, by decide +kernel, rfl, by decide +kernel, by decide +kernel⟩
abbrev s_check_bits : Stmt := topS 27
theorem sc_check_bits : FnScope N_check_bits ["value", "many"] (defScope s_check_bits) := ⟨rfl, rfl, rfl, by decide +kernel, rfl, by decide +kernel, by decide +kernel⟩
abbrev s_check_round : Stmt := topS 28
theorem sc_check_round : FnScope N_check_round ["n", "edges"] (defScope s_check_round) := ⟨rfl, rfl, rfl, by decide +kernel, rfl, by decide +kernel, by decide +kernel⟩
abbrev s_hidden_edges : Stmt := topS 29
theorem sc_hidden_edges : FnScope N_hidden_edges ["edges", "group"] (defScope s_hidden_edges) := ⟨rfl, rfl, rfl, by decide +kernel, rfl, by decide +kernel, by decide +kernel⟩
abbrev s_lots_left : Stmt := topS 30
theorem sc_lots_left : FnScope N_lots_left ["n", "edges", "group"] (defScope s_lots_left) := ⟨rfl, rfl, rfl, by decide +kernel, rfl, by decide +kernel, by decide +kernel⟩
abbrev s_sums_of : Stmt := topS 31
theorem sc_sums_of : FnScope N_sums_of ["lots", "row"] (defScope s_sums_of) := ⟨rfl, rfl, rfl, by decide +kernel, rfl, by decide +kernel, by decide +kernel⟩
abbrev s_ways_said : Stmt := topS 32
theorem sc_ways_said : FnScope N_ways_said ["n", "edges", "group", "secrets", "words"] (defScope s_ways_said) := ⟨rfl, rfl, rfl, by decide +kernel, rfl, by decide +kernel, by decide +kernel⟩
abbrev s__law_pool : Stmt := topS 34
abbrev N__law_pool : List Str := ["script", "state", "great", "k"]
theorem sc__law_pool : FnScope N__law_pool ["script"] (defScope s__law_pool) := ⟨rfl, rfl, rfl, by decide +kernel, rfl, by decide +kernel, by decide +kernel⟩
abbrev s__law_take : Stmt := topS 35
abbrev N__law_take : List Str := ["pool", "many", "found", "state"]
theorem sc__law_take : FnScope N__law_take ["pool", "many"] (defScope s__law_take) := ⟨rfl, rfl, rfl, by decide +kernel, rfl, by decide +kernel, by decide +kernel⟩
abbrev s__law_same : Stmt := topS 36
theorem sc__law_same : FnScope N__law_same ["found", "due"] (defScope s__law_same) := ⟨rfl, rfl, rfl, by decide +kernel, rfl, by decide +kernel, by decide +kernel⟩
abbrev s__law_ties : Stmt := topS 37
theorem sc__law_ties : FnScope N__law_ties ["pool", "n"] (defScope s__law_ties) := ⟨rfl, rfl, rfl, by decide +kernel, rfl, by decide +kernel, by decide +kernel⟩
abbrev s__law_group : Stmt := topS 38
theorem sc__law_group : FnScope N__law_group ["pool", "n"] (defScope s__law_group) := ⟨rfl, rfl, rfl, by decide +kernel, rfl, by decide +kernel, by decide +kernel⟩
abbrev s__law_ways : Stmt := topS 39
theorem sc__law_ways : FnScope N__law_ways ["ties", "group"] (defScope s__law_ways) := ⟨rfl, rfl, rfl, by decide +kernel, rfl, by decide +kernel, by decide +kernel⟩
abbrev s__law_mask : Stmt := topS 40
theorem sc__law_mask : FnScope N__law_mask ["bits"] (defScope s__law_mask) := ⟨rfl, rfl, rfl, by decide +kernel, rfl, by decide +kernel, by decide +kernel⟩
abbrev s__law_bits : Stmt := topS 41
theorem sc__law_bits : FnScope N__law_bits ["mask", "n"] (defScope s__law_bits) := ⟨rfl, rfl, rfl, by decide +kernel, rfl, by decide +kernel, by decide +kernel⟩
abbrev s__law_way_fits : Stmt := topS 42
theorem sc__law_way_fits : FnScope N__law_way_fits ["pool", "n", "ties", "group", "secrets", "words", "due"] (defScope s__law_way_fits) := ⟨rfl, rfl, rfl, by decide +kernel, rfl, by decide +kernel, by decide +kernel⟩
abbrev s__law_all_words_fit : Stmt := topS 43
theorem sc__law_all_words_fit : FnScope N__law_all_words_fit ["pool", "n", "ties", "group", "secrets", "counts"] (defScope s__law_all_words_fit) := ⟨rfl, rfl, rfl, by decide +kernel, rfl, by decide +kernel, by decide +kernel⟩
abbrev s__law_some_words_fit : Stmt := topS 44
theorem sc__law_some_words_fit : FnScope N__law_some_words_fit ["pool", "n", "ties", "group", "secrets", "counts"] (defScope s__law_some_words_fit) := ⟨rfl, rfl, rfl, by decide +kernel, rfl, by decide +kernel, by decide +kernel⟩
abbrev s__law_bad_number : Stmt := topS 45
theorem sc__law_bad_number : FnScope N__law_bad_number ["pool"] (defScope s__law_bad_number) := ⟨rfl, rfl, rfl, by decide +kernel, rfl, by decide +kernel, by decide +kernel⟩
abbrev s__law_bad_pair : Stmt := topS 46
theorem sc__law_bad_pair : FnScope N__law_bad_pair ["pool", "n", "one", "other"] (defScope s__law_bad_pair) := ⟨rfl, rfl, rfl, by decide +kernel, rfl, by decide +kernel, by decide +kernel⟩
abbrev s__law_bad_ties : Stmt := topS 47
theorem sc__law_bad_ties : FnScope N__law_bad_ties ["pool", "n", "ties"] (defScope s__law_bad_ties) := ⟨rfl, rfl, rfl, by decide +kernel, rfl, by decide +kernel, by decide +kernel⟩
abbrev s__law_bad_group : Stmt := topS 48
theorem sc__law_bad_group : FnScope N__law_bad_group ["pool", "n", "group"] (defScope s__law_bad_group) := ⟨rfl, rfl, rfl, by decide +kernel, rfl, by decide +kernel, by decide +kernel⟩
abbrev s__law_bad_bits : Stmt := topS 49
theorem sc__law_bad_bits : FnScope N__law_bad_bits ["pool", "bits"] (defScope s__law_bad_bits) := ⟨rfl, rfl, rfl, by decide +kernel, rfl, by decide +kernel, by decide +kernel⟩
abbrev s__law_refusal : Stmt := topS 50
theorem sc__law_refusal : FnScope N__law_refusal ["n", "ties", "group", "secrets", "words"] (defScope s__law_refusal) := ⟨rfl, rfl, rfl, by decide +kernel, rfl, by decide +kernel, by decide +kernel⟩
abbrev s__law_refused : Stmt := topS 51
theorem sc__law_refused : FnScope N__law_refused ["pool", "n", "ties", "group", "secrets", "words"] (defScope s__law_refused) := ⟨rfl, rfl, rfl, by decide +kernel, rfl, by decide +kernel, by decide +kernel⟩
abbrev s_law : Stmt := topS 52
theorem sc_law : FnScope N_law ["script"] (defScope s_law) := ⟨rfl, rfl, rfl, by decide +kernel, rfl, by decide +kernel, by decide +kernel⟩
theorem der_is_integer {P : Program} {w : World} {K : PySem.W.Frag} {mg : Str → Option Value} {base : Heap} {f : Addr} (n_bool : mg "bool" = none) (n_int : mg "int" = none) (n_isinstance : mg "isinstance" = none) (cdv : Value) (A : Around) (outer : List Env) (s : Shared) (H : Hp) (E : XK) (hr : Room 0 (A.deeper (envOfC "is_integer" (defScope s_is_integer) s.heap.objs.size f cdv))) :
    PSs (cxOf (L2N.CX P w) P w K mg base N_is_integer "is_integer" (defScope s_is_integer) f cdv A outer s H E) (defBody s_is_integer) (t_is_integer K w E) :=
  (pss_one (ps_ret (pe_and (pe_callB call_isi (by rfl) n_isinstance (by decide +kernel) (pa_cons (pv 0) (pa_cons (pe_bltn (v := .ty "int") (by rfl) n_int (by decide +kernel) rfl) pa_nil))) (pe_one (pe_not (pe_callB call_isi (by rfl) n_isinstance (by decide +kernel) (pa_cons (pv 0) (pa_cons (pe_bltn (v := .ty "bool") (by rfl) n_bool (by decide +kernel) rfl) pa_nil))))))))
theorem der_is_from_to {P : Program} {w : World} {K : PySem.W.Frag} {mg : Str → Option Value} {base : Heap} {f : Addr} {sp_is_integer : Sp} (cl_is_integer : Cl P w K mg base 1 "is_integer" sp_is_integer) (cdv : Value) (A : Around) (outer : List Env) (s : Shared) (H : Hp) (E : XK) (hr : Room 1 (A.deeper (envOfC "is_from_to" (defScope s_is_from_to) s.heap.objs.size f cdv))) :
    PSs (cxOf (L2N.CX P w) P w K mg base N_is_from_to "is_from_to" (defScope s_is_from_to) f cdv A outer s H E) (defBody s_is_from_to) (t_is_from_to K w sp_is_integer E) :=
  (pss_one (ps_ret (pe_and (dCall (E := E) cl_is_integer hr (by decide) (by rfl) (L2N.passes_call (L2N.takes_of rfl rfl rfl rfl) fun _ _ _ _ h => h) (pa_cons (pv 0) pa_nil)) (pe_one (pe_chain oLe oLe (pv 1) (pv 0) (pv 2))))))
theorem der_check_number {P : Program} {w : World} {K : PySem.W.Frag} {mg : Str → Option Value} {base : Heap} {f : Addr} {C_BadNumber : Addr} {sp_is_from_to : Sp} (cl_is_from_to : Cl P w K mg base 2 "is_from_to" sp_is_from_to) (g_BadNumber : mg "BadNumber" = some (.ref C_BadNumber)) (x_BadNumber : ExcF K C_BadNumber) (cdv : Value) (A : Around) (outer : List Env) (s : Shared) (H : Hp) (E : XK) (hr : Room 2 (A.deeper (envOfC "check_number" (defScope s_check_number) s.heap.objs.size f cdv))) :
    PSs (cxOf (L2N.CX P w) P w K mg base N_check_number "check_number" (defScope s_check_number) f cdv A outer s H E) (defBody s_check_number) (t_check_number K w C_BadNumber sp_is_from_to E) :=
  (pss_one (ps_if (pt_not (pt_val (dCall (E := E) cl_is_from_to hr (by decide) (by rfl) (L2N.passes_call (L2N.takes_of rfl rfl rfl rfl) fun _ _ _ _ h => h) (pa_cons (pv 0) (pa_cons (pv 1) (pa_cons (pv 2) pa_nil)))))) (pss_one (L2N.ps_raise (W := fun cls d _ H' => E cls d H') rfl (L2N.takes_of rfl rfl rfl rfl) (L2N.pmk_own PySem.F.excBase_ValueError x_BadNumber.1 g_BadNumber x_BadNumber.2.1 (raises_own x_BadNumber.2.2.1 x_BadNumber.2.2.2) (by rfl)))) pss_nil))
theorem der_is_lot {P : Program} {w : World} {K : PySem.W.Frag} {mg : Str → Option Value} {base : Heap} {f : Addr} {sp_is_from_to : Sp} (cl_is_from_to : Cl P w K mg base 2 "is_from_to" sp_is_from_to) (n_isinstance : mg "isinstance" = none) (n_tuple : mg "tuple" = none) (cdv : Value) (A : Around) (outer : List Env) (s : Shared) (H : Hp) (E : XK) (hr : Room 2 (A.deeper (envOfC "is_lot" (defScope s_is_lot) s.heap.objs.size f cdv))) :
    PSs (cxOf (L2N.CX P w) P w K mg base N_is_lot "is_lot" (defScope s_is_lot) f cdv A outer s H E) (defBody s_is_lot) (t_is_lot K w sp_is_from_to E) :=
  (pss_cons (ps_if (pt_not (pt_val (pe_callB call_isi (by rfl) n_isinstance (by decide +kernel) (pa_cons (pv 0) (pa_cons (pe_bltn (v := .ty "tuple") (by rfl) n_tuple (by decide +kernel) rfl) pa_nil))))) (pss_one (ps_ret pe_bl)) pss_nil)
    (pss_cons (ps_set (i := 2) sc_is_lot.nd rfl (by first | exact Or.inl rfl | exact Or.inr rfl) pe_int)
    (pss_cons (ps_for (passes_of rfl) rfl (pi_seq (pv 0)) (pg_name (i := 3) sc_is_lot.nd rfl (by first | exact Or.inl rfl | exact Or.inr rfl)) (pss_cons (ps_if (pt_not (pt_val (dCall (E := E) cl_is_from_to hr (by decide) (by rfl) (L2N.passes_call (L2N.takes_of rfl rfl rfl rfl) fun _ _ _ _ h => h) (pa_cons (pv 3) (pa_cons (pv 2) (pa_cons (pe_op oSub (pv 1) pe_int) pa_nil)))))) (pss_one (ps_ret pe_bl)) pss_nil)
    (pss_one (ps_set (i := 2) sc_is_lot.nd rfl (by first | exact Or.inl rfl | exact Or.inr rfl) (pe_op oAdd (pv 3) pe_int)))))
    (pss_one (ps_ret pe_bl)))))
theorem der_check_group {P : Program} {w : World} {K : PySem.W.Frag} {mg : Str → Option Value} {base : Heap} {f : Addr} {C_BadGroup : Addr} {sp_is_lot : Sp} (cl_is_lot : Cl P w K mg base 3 "is_lot" sp_is_lot) (g_BadGroup : mg "BadGroup" = some (.ref C_BadGroup)) (x_BadGroup : ExcF K C_BadGroup) (cdv : Value) (A : Around) (outer : List Env) (s : Shared) (H : Hp) (E : XK) (hr : Room 3 (A.deeper (envOfC "check_group" (defScope s_check_group) s.heap.objs.size f cdv))) :
    PSs (cxOf (L2N.CX P w) P w K mg base N_check_group "check_group" (defScope s_check_group) f cdv A outer s H E) (defBody s_check_group) (t_check_group K w C_BadGroup sp_is_lot E) :=
  (pss_one (ps_if (pt_not (pt_val (dCall (E := E) cl_is_lot hr (by decide) (by rfl) (L2N.passes_call (L2N.takes_of rfl rfl rfl rfl) fun _ _ _ _ h => h) (pa_cons (pv 0) (pa_cons (pv 1) pa_nil))))) (pss_one (L2N.ps_raise (W := fun cls d _ H' => E cls d H') rfl (L2N.takes_of rfl rfl rfl rfl) (L2N.pmk_own PySem.F.excBase_ValueError x_BadGroup.1 g_BadGroup x_BadGroup.2.1 (raises_own x_BadGroup.2.2.1 x_BadGroup.2.2.2) (by rfl)))) pss_nil))
theorem der_check_numbers {P : Program} {w : World} {K : PySem.W.Frag} {mg : Str → Option Value} {base : Heap} {f : Addr} {C_BadRow : Addr} {sp_is_from_to : Sp} (cl_is_from_to : Cl P w K mg base 2 "is_from_to" sp_is_from_to) (g_BadRow : mg "BadRow" = some (.ref C_BadRow)) (R_BadRow : RowF P w K mg base 1 "place" C_BadRow) (n_enumerate : mg "enumerate" = none) (n_isinstance : mg "isinstance" = none) (n_len : mg "len" = none) (n_list : mg "list" = none) (n_tuple : mg "tuple" = none) (cdv : Value) (A : Around) (outer : List Env) (s : Shared) (H : Hp) (E : XK) (hr : Room 2 (A.deeper (envOfC "check_numbers" (defScope s_check_numbers) s.heap.objs.size f cdv))) :
    PSs (cxOf (L2N.CX P w) P w K mg base N_check_numbers "check_numbers" (defScope s_check_numbers) f cdv A outer s H E) (defBody s_check_numbers) (t_check_numbers K w C_BadRow sp_is_from_to E) :=
  (pss_cons (ps_if (PW.pt (pw_or (pt_not (pt_val (pe_callB call_isiT (by rfl) n_isinstance (by decide +kernel) (pa_cons (pv 0) (pa_cons (pe_tup (pa_cons (pe_bltn (v := .ty "list") (by rfl) n_list (by decide +kernel) rfl) (pa_cons (pe_bltn (v := .ty "tuple") (by rfl) n_tuple (by decide +kernel) rfl) pa_nil))) pa_nil))))) (pw_or1 (pt_cmpR (oNe hr.units) (pe_callB cLen (by rfl) n_len (by decide +kernel) (pa_cons (pv 0) pa_nil)) (pv 1) (nomark _))))) (pss_one (ps_raiseO R_BadRow hr (by decide) rfl (L2N.takes_of rfl rfl rfl rfl) (by rfl) g_BadRow (pa_cons pe_int pa_nil))) pss_nil)
    (pss_one (ps_for (passes_of rfl) rfl (pi_enumA (by rfl) n_enumerate (pa_cons (pv 0) pa_nil)) (pg_tup rfl (pgs_cons (pg_name (i := 3) sc_check_numbers.nd rfl (by first | exact Or.inl rfl | exact Or.inr rfl)) (pgs_cons (pg_name (i := 4) sc_check_numbers.nd rfl (by first | exact Or.inl rfl | exact Or.inr rfl)) pgs_nil))) (pss_one (ps_if (pt_not (pt_val (dCall (E := E) cl_is_from_to hr (by decide) (by rfl) (L2N.passes_call (L2N.takes_of rfl rfl rfl rfl) fun _ _ _ _ h => h) (pa_cons (pv 4) (pa_cons pe_int (pa_cons (pv 2) pa_nil)))))) (pss_one (ps_raiseO R_BadRow hr (by decide) rfl (L2N.takes_of rfl rfl rfl rfl) (by rfl) g_BadRow (pa_cons (pv 3) pa_nil))) pss_nil)))))
theorem der_are_pairs {P : Program} {w : World} {K : PySem.W.Frag} {mg : Str → Option Value} {base : Heap} {f : Addr} {sp_is_from_to : Sp} (cl_is_from_to : Cl P w K mg base 2 "is_from_to" sp_is_from_to) (n_all : mg "all" = none) (n_isinstance : mg "isinstance" = none) (n_len : mg "len" = none) (n_tuple : mg "tuple" = none) (cdv : Value) (A : Around) (outer : List Env) (s : Shared) (H : Hp) (E : XK) (hr : Room 2 (A.deeper (envOfC "are_pairs" (defScope s_are_pairs) s.heap.objs.size f cdv))) :
    PSs (cxOf (L2N.CX P w) P w K mg base N_are_pairs "are_pairs" (defScope s_are_pairs) f cdv A outer s H E) (defBody s_are_pairs) (t_are_pairs K w sp_is_from_to E) :=
  (pss_cons (ps_if (PW.pt (pw_or (pt_not (pt_val (pe_callB call_isi (by rfl) n_isinstance (by decide +kernel) (pa_cons (pv 0) (pa_cons (pe_bltn (v := .ty "tuple") (by rfl) n_tuple (by decide +kernel) rfl) pa_nil))))) (pw_or1 (pt_not (pt_val (pe_callB (cr_all rfl) (by rfl) n_all (by decide +kernel) (pa_cons (pe_lc (own := [("pair", 2)]) rfl sc_are_pairs.nd (pi_seq (pv 0)) (blkOk_by (own := [("pair", 2)]) (N := N_are_pairs) (sc := defScope s_are_pairs) (by decide +kernel)) (fun _ _ _ _ _ => (pg_name (i := 2) sc_are_pairs.nd rfl (by first | exact Or.inl rfl | exact Or.inr rfl))) (fun _ _ _ _ _ => pts_nil) (fun _ _ _ _ _ => (pe_and (pe_callB call_isi (by rfl) n_isinstance (by decide +kernel) (pa_cons (pv 2) (pa_cons (pe_bltn (v := .ty "tuple") (by rfl) n_tuple (by decide +kernel) rfl) pa_nil))) (pe_one (pe_cmpR (oEq hr.units) (pe_callB cLen (by rfl) n_len (by decide +kernel) (pa_cons (pv 2) pa_nil)) pe_int (nomark _)))))) pa_nil))))))) (pss_one (ps_ret pe_bl)) pss_nil)
    (pss_one (ps_ret (pe_callB (cr_all rfl) (by rfl) n_all (by decide +kernel) (pa_cons (pe_lc (own := [("i", 3), ("j", 4)]) rfl sc_are_pairs.nd (pi_seq (pv 0)) (blkOk_by (own := [("i", 3), ("j", 4)]) (N := N_are_pairs) (sc := defScope s_are_pairs) (by decide +kernel)) (fun _ _ _ _ _ => (pg_tup rfl (pgs_cons (pg_name (i := 3) sc_are_pairs.nd rfl (by first | exact Or.inl rfl | exact Or.inr rfl)) (pgs_cons (pg_name (i := 4) sc_are_pairs.nd rfl (by first | exact Or.inl rfl | exact Or.inr rfl)) pgs_nil)))) (fun _ _ _ _ _ => pts_nil) (fun _ _ _ _ _ => (pe_and (dCall (E := E0) cl_is_from_to hr (by decide) (by rfl) passN (pa_cons (pv 3) (pa_cons pe_int (pa_cons (pe_op oSub (pv 1) pe_int) pa_nil)))) (pe_and (dCall (E := E0) cl_is_from_to hr (by decide) (by rfl) passN (pa_cons (pv 4) (pa_cons pe_int (pa_cons (pe_op oSub (pv 1) pe_int) pa_nil)))) (pe_one (pe_cmpR oLt (pv 3) (pv 4) (nomark _))))))) pa_nil)))))
theorem der_check_edges {P : Program} {w : World} {K : PySem.W.Frag} {mg : Str → Option Value} {base : Heap} {f : Addr} {C_BadCalls : Addr} {sp_are_pairs : Sp} (cl_are_pairs : Cl P w K mg base 3 "are_pairs" sp_are_pairs) (g_BadCalls : mg "BadCalls" = some (.ref C_BadCalls)) (x_BadCalls : ExcF K C_BadCalls) (n_all : mg "all" = none) (n_len : mg "len" = none) (n_range : mg "range" = none) (cdv : Value) (A : Around) (outer : List Env) (s : Shared) (H : Hp) (E : XK) (hr : Room 3 (A.deeper (envOfC "check_edges" (defScope s_check_edges) s.heap.objs.size f cdv))) :
    PSs (cxOf (L2N.CX P w) P w K mg base N_check_edges "check_edges" (defScope s_check_edges) f cdv A outer s H E) (defBody s_check_edges) (t_check_edges K w C_BadCalls sp_are_pairs E) :=
  (pss_one (ps_if (PW.pt (pw_or (pt_not (pt_val (dCall (E := E) cl_are_pairs hr (by decide) (by rfl) (L2N.passes_call (L2N.takes_of rfl rfl rfl rfl) fun _ _ _ _ h => h) (pa_cons (pv 1) (pa_cons (pv 0) pa_nil))))) (pw_or1 (pt_not (pt_val (pe_callB (cr_all rfl) (by rfl) n_all (by decide +kernel) (pa_cons (pe_lc (own := [("k", 2)]) rfl sc_check_edges.nd (pi_range1 (by rfl) n_range (pa_cons (pe_op oSub (pe_callB cLen (by rfl) n_len (by decide +kernel) (pa_cons (pv 1) pa_nil)) pe_int) pa_nil)) (blkOk_by (own := [("k", 2)]) (N := N_check_edges) (sc := defScope s_check_edges) (by decide +kernel)) (fun _ _ _ _ _ => (pg_name (i := 2) sc_check_edges.nd rfl (by first | exact Or.inl rfl | exact Or.inr rfl))) (fun _ _ _ _ _ => pts_nil) (fun _ _ _ _ _ => (pe_cmpR (oLtA hr.units0) (pe_ix ix_seq (pv 1) (pv 2) (fun _ _ => rfl)) (pe_ix ix_seq (pv 1) (pe_op oAdd (pv 2) pe_int) (fun _ _ => rfl)) (nomark _)))) pa_nil))))))) (pss_one (L2N.ps_raise (W := fun cls d _ H' => E cls d H') rfl (L2N.takes_of rfl rfl rfl rfl) (L2N.pmk_own PySem.F.excBase_ValueError x_BadCalls.1 g_BadCalls x_BadCalls.2.1 (raises_own x_BadCalls.2.2.1 x_BadCalls.2.2.2) (by rfl)))) pss_nil))
theorem der_check_bits {P : Program} {w : World} {K : PySem.W.Frag} {mg : Str → Option Value} {base : Heap} {f : Addr} {sp_check_numbers : Sp} (cl_check_numbers : Cl P w K mg base 3 "check_numbers" sp_check_numbers) (cdv : Value) (A : Around) (outer : List Env) (s : Shared) (H : Hp) (E : XK) (hr : Room 3 (A.deeper (envOfC "check_bits" (defScope s_check_bits) s.heap.objs.size f cdv))) :
    PSs (cxOf (L2N.CX P w) P w K mg base N_check_bits "check_bits" (defScope s_check_bits) f cdv A outer s H E) (defBody s_check_bits) (t_check_bits K w sp_check_numbers E) :=
  (pss_one (ps_expr (dCall (E := E) cl_check_numbers hr (by decide) (by rfl) (L2N.passes_call (L2N.takes_of rfl rfl rfl rfl) fun _ _ _ _ h => h) (pa_cons (pv 0) (pa_cons (pv 1) (pa_cons pe_int pa_nil))))))
theorem der_check_round {P : Program} {w : World} {K : PySem.W.Frag} {mg : Str → Option Value} {base : Heap} {f : Addr} {sp_check_edges : Sp} {sp_check_number : Sp} (cl_check_edges : Cl P w K mg base 4 "check_edges" sp_check_edges) (cl_check_number : Cl P w K mg base 3 "check_number" sp_check_number) (c_MOST_PEOPLE : ∃ t, mg "MOST_PEOPLE" = some (.int 6 t)) (cdv : Value) (A : Around) (outer : List Env) (s : Shared) (H : Hp) (E : XK) (hr : Room 4 (A.deeper (envOfC "check_round" (defScope s_check_round) s.heap.objs.size f cdv))) :
    PSs (cxOf (L2N.CX P w) P w K mg base N_check_round "check_round" (defScope s_check_round) f cdv A outer s H E) (defBody s_check_round) (t_check_round K w sp_check_edges sp_check_number E) :=
  (pss_cons (ps_expr (dCall (E := E) cl_check_number hr (by decide) (by rfl) (L2N.passes_call (L2N.takes_of rfl rfl rfl rfl) fun _ _ _ _ h => h) (pa_cons (pv 0) (pa_cons pe_int (pa_cons (dGlobI (by rfl) c_MOST_PEOPLE) pa_nil)))))
    (pss_one (ps_expr (dCall (E := E) cl_check_edges hr (by decide) (by rfl) (L2N.passes_call (L2N.takes_of rfl rfl rfl rfl) fun _ _ _ _ h => h) (pa_cons (pv 0) (pa_cons (pv 1) pa_nil))))))
theorem der_hidden_edges {P : Program} {w : World} {K : PySem.W.Frag} {mg : Str → Option Value} {base : Heap} {f : Addr} (cdv : Value) (A : Around) (outer : List Env) (s : Shared) (H : Hp) (E : XK) (hr : Room 0 (A.deeper (envOfC "hidden_edges" (defScope s_hidden_edges) s.heap.objs.size f cdv))) :
    PSs (cxOf (L2N.CX P w) P w K mg base N_hidden_edges "hidden_edges" (defScope s_hidden_edges) f cdv A outer s H E) (defBody s_hidden_edges) (t_hidden_edges K w E) :=
  (pss_one (ps_ret (pe_lc (own := [("i", 2), ("j", 3)]) rfl sc_hidden_edges.nd (pi_seq (pv 0)) (blkOk_by (own := [("i", 2), ("j", 3)]) (N := N_hidden_edges) (sc := defScope s_hidden_edges) (by decide +kernel)) (fun _ _ _ _ _ => (pg_tup rfl (pgs_cons (pg_name (i := 2) sc_hidden_edges.nd rfl (by first | exact Or.inl rfl | exact Or.inr rfl)) (pgs_cons (pg_name (i := 3) sc_hidden_edges.nd rfl (by first | exact Or.inl rfl | exact Or.inr rfl)) pgs_nil)))) (fun _ _ _ _ _ => (pts_one (PW.pt (pw_and (pt_cmpR (oNi (hu1 hr)) (pv 2) (pv 1) (by rfl)) (pw_and1 (pt_cmpR (oNi (hu1 hr)) (pv 3) (pv 1) (by rfl))))))) (fun _ _ _ _ _ => (pe_tup (pa_cons (pv 2) (pa_cons (pv 3) pa_nil)))))))
theorem der_lots_left {P : Program} {w : World} {K : PySem.W.Frag} {mg : Str → Option Value} {base : Heap} {f : Addr} {sp_hidden_edges : Sp} (cl_hidden_edges : Cl P w K mg base 1 "hidden_edges" sp_hidden_edges) (n_len : mg "len" = none) (n_range : mg "range" = none) (n_sorted : mg "sorted" = none) (n_tuple : mg "tuple" = none) (cdv : Value) (A : Around) (outer : List Env) (s : Shared) (H : Hp) (E : XK) (hr : Room 1 (A.deeper (envOfC "lots_left" (defScope s_lots_left) s.heap.objs.size f cdv))) :
    PSs (cxOf (L2N.CX P w) P w K mg base N_lots_left "lots_left" (defScope s_lots_left) f cdv A outer s H E) (defBody s_lots_left) (t_lots_left K w sp_hidden_edges E) :=
  (pss_cons (ps_setLc (i := 3) (own := [("person", 9)]) rfl sc_lots_left.nd rfl rfl (sw_true rfl rfl rfl (by decide +kernel)) (pi_range1 (by rfl) n_range (pa_cons (pv 0) pa_nil)) (blkOk_by (own := [("person", 9)]) (N := N_lots_left) (sc := defScope s_lots_left) (by decide +kernel)) (fun _ _ _ _ _ => (pg_name (i := 9) sc_lots_left.nd rfl (by first | exact Or.inl rfl | exact Or.inr rfl))) (fun _ _ _ _ _ => (pts_one (pt_cmpR (oNi (hu1 hr)) (pv 9) (pv 2) (by rfl)))) (fun _ _ _ _ _ => (pv 9)))
    (pss_cons (ps_set (i := 4) sc_lots_left.nd rfl (by first | exact Or.inl rfl | exact Or.inr rfl) (pe_lst pa_nil))
    (pss_cons (ps_while (passes_of rfl) (pt_cmpR oGt (pe_callB cLen (by rfl) n_len (by decide +kernel) (pa_cons (pv 3) pa_nil)) pe_int (nomark _)) (pss_cons (ps_set (i := 5) sc_lots_left.nd rfl (by first | exact Or.inl rfl | exact Or.inr rfl) (pe_lst (pa_cons (pe_ix ix_seq (pv 3) pe_int (fun _ _ => rfl)) pa_nil)))
    (pss_cons (ps_set (i := 6) sc_lots_left.nd rfl (by first | exact Or.inl rfl | exact Or.inr rfl) pe_int)
    (pss_cons (ps_while (passes_of rfl) (pt_cmpR oLt (pv 6) (pe_callB cLen (by rfl) n_len (by decide +kernel) (pa_cons (pv 5) pa_nil)) (nomark _)) (pss_cons (ps_for (passes_of rfl) rfl (pi_seq (dCall (E := E) cl_hidden_edges hr (by decide) (by rfl) (L2N.passes_call (L2N.takes_of rfl rfl rfl rfl) fun _ _ _ _ h => h) (pa_cons (pv 1) (pa_cons (pv 2) pa_nil)))) (pg_tup rfl (pgs_cons (pg_name (i := 7) sc_lots_left.nd rfl (by first | exact Or.inl rfl | exact Or.inr rfl)) (pgs_cons (pg_name (i := 8) sc_lots_left.nd rfl (by first | exact Or.inl rfl | exact Or.inr rfl)) pgs_nil))) (pss_one (ps_if (pt_cmpR (oIn (hu1 hr)) (pe_ix ix_seq (pv 5) (pv 6) (fun _ _ => rfl)) (pe_tup (pa_cons (pv 7) (pa_cons (pv 8) pa_nil))) (by rfl)) (pss_one (ps_expr (pe_bm PySem.F.plainAttrs_list PySem.F.slot_list_extend PySem.F.type_list_extend mt_extend (pv 5) (pa_cons (pe_lc (own := [("one", 10)]) rfl sc_lots_left.nd (pi_seq (pe_tup (pa_cons (pv 7) (pa_cons (pv 8) pa_nil)))) (blkOk_by (own := [("one", 10)]) (N := N_lots_left) (sc := defScope s_lots_left) (by decide +kernel)) (fun _ _ _ _ _ => (pg_name (i := 10) sc_lots_left.nd rfl (by first | exact Or.inl rfl | exact Or.inr rfl))) (fun _ _ _ _ _ => (pts_one (pt_cmpR (oNi (hu1 hr)) (pv 10) (pv 5) (by rfl)))) (fun _ _ _ _ _ => (pv 10))) pa_nil)))) pss_nil)))
    (pss_one (ps_aug (i := 6) sc_lots_left.nd rfl (by first | exact Or.inl rfl | exact Or.inr rfl) pe_int ip_add))))
    (pss_cons (ps_expr (pe_bm PySem.F.plainAttrs_list PySem.F.slot_list_append PySem.F.type_list_append mt_append (pv 4) (pa_cons (pe_tupleOf (by rfl) n_tuple (pe_callB cSorted (by rfl) n_sorted (by decide +kernel) (pa_cons (pv 5) pa_nil))) pa_nil)))
    (pss_one (ps_setLc (i := 3) (own := [("person", 9)]) rfl sc_lots_left.nd rfl rfl (sw_true rfl rfl rfl (by decide +kernel)) (pi_seq (pv 3)) (blkOk_by (own := [("person", 9)]) (N := N_lots_left) (sc := defScope s_lots_left) (by decide +kernel)) (fun _ _ _ _ _ => (pg_name (i := 9) sc_lots_left.nd rfl (by first | exact Or.inl rfl | exact Or.inr rfl))) (fun _ _ _ _ _ => (pts_one (pt_cmpR (oNi (hu1 hr)) (pv 9) (pv 5) (by rfl)))) (fun _ _ _ _ _ => (pv 9)))))))))
    (pss_one (ps_ret (pv 4))))))
theorem der_sums_of {P : Program} {w : World} {K : PySem.W.Frag} {mg : Str → Option Value} {base : Heap} {f : Addr} (n_sum : mg "sum" = none) (cdv : Value) (A : Around) (outer : List Env) (s : Shared) (H : Hp) (E : XK) (hr : Room 0 (A.deeper (envOfC "sums_of" (defScope s_sums_of) s.heap.objs.size f cdv))) :
    PSs (cxOf (L2N.CX P w) P w K mg base N_sums_of "sums_of" (defScope s_sums_of) f cdv A outer s H E) (defBody s_sums_of) (t_sums_of K w E) :=
  (pss_one (ps_ret (pe_lc (own := [("lot", 2)]) rfl sc_sums_of.nd (pi_seq (pv 0)) (blkOk_by (own := [("lot", 2)]) (N := N_sums_of) (sc := defScope s_sums_of) (by decide +kernel)) (fun _ _ _ _ _ => (pg_name (i := 2) sc_sums_of.nd rfl (by first | exact Or.inl rfl | exact Or.inr rfl))) (fun _ _ _ _ _ => pts_nil) (fun _ _ _ _ _ => (pe_op oMod (pe_callB (cr_sumA rfl) (by rfl) n_sum (by decide +kernel) (pa_cons (pe_lc (own := [("person", 3)]) rfl sc_sums_of.nd (pi_seq (pv 2)) (blkOk_by (own := [("person", 3)]) (N := N_sums_of) (by kernel_rfl)) (fun _ _ _ _ _ => (pg_name (i := 3) sc_sums_of.nd rfl (by first | exact Or.inl rfl | exact Or.inr rfl))) (fun _ _ _ _ _ => pts_nil) (fun _ _ _ _ _ => (pe_ix ix_seq (pv 1) (pv 3) (fun _ _ => rfl)))) pa_nil)) pe_int)))))
theorem der_ways_said {P : Program} {w : World} {K : PySem.W.Frag} {mg : Str → Option Value} {base : Heap} {f : Addr} {sp_check_bits : Sp} {sp_check_group : Sp} {sp_check_round : Sp} {sp_hidden_edges : Sp} {sp_lots_left : Sp} {sp_sums_of : Sp} (cl_check_bits : Cl P w K mg base 4 "check_bits" sp_check_bits) (cl_check_group : Cl P w K mg base 4 "check_group" sp_check_group) (cl_check_round : Cl P w K mg base 5 "check_round" sp_check_round) (cl_hidden_edges : Cl P w K mg base 1 "hidden_edges" sp_hidden_edges) (cl_lots_left : Cl P w K mg base 2 "lots_left" sp_lots_left) (cl_sums_of : Cl P w K mg base 1 "sums_of" sp_sums_of) (n_any : mg "any" = none) (n_len : mg "len" = none) (n_range : mg "range" = none) (cdv : Value) (A : Around) (outer : List Env) (s : Shared) (H : Hp) (E : XK) (hr : Room 5 (A.deeper (envOfC "ways_said" (defScope s_ways_said) s.heap.objs.size f cdv))) :
    PSs (cxOf (L2N.CX P w) P w K mg base N_ways_said "ways_said" (defScope s_ways_said) f cdv A outer s H E) (defBody s_ways_said) (t_ways_said K w sp_check_bits sp_check_group sp_check_round sp_hidden_edges sp_lots_left sp_sums_of E) :=
  (pss_cons (ps_expr (dCall (E := E) cl_check_round hr (by decide) (by rfl) (L2N.passes_call (L2N.takes_of rfl rfl rfl rfl) fun _ _ _ _ h => h) (pa_cons (pv 0) (pa_cons (pv 1) pa_nil))))
    (pss_cons (ps_expr (dCall (E := E) cl_check_group hr (by decide) (by rfl) (L2N.passes_call (L2N.takes_of rfl rfl rfl rfl) fun _ _ _ _ h => h) (pa_cons (pv 2) (pa_cons (pv 0) pa_nil))))
    (pss_cons (ps_expr (dCall (E := E) cl_check_bits hr (by decide) (by rfl) (L2N.passes_call (L2N.takes_of rfl rfl rfl rfl) fun _ _ _ _ h => h) (pa_cons (pv 3) (pa_cons (pv 0) pa_nil))))
    (pss_cons (ps_expr (dCall (E := E) cl_check_bits hr (by decide) (by rfl) (L2N.passes_call (L2N.takes_of rfl rfl rfl rfl) fun _ _ _ _ h => h) (pa_cons (pv 4) (pa_cons (pv 0) pa_nil))))
    (pss_cons (ps_if (pt_val (pe_callB (cr_any rfl) (by rfl) n_any (by decide +kernel) (pa_cons (pe_lc (own := [("person", 8)]) rfl sc_ways_said.nd (pi_seq (pv 2)) (blkOk_by (own := [("person", 8)]) (N := N_ways_said) (sc := defScope s_ways_said) (by decide +kernel)) (fun _ _ _ _ _ => (pg_name (i := 8) sc_ways_said.nd rfl (by first | exact Or.inl rfl | exact Or.inr rfl))) (fun _ _ _ _ _ => pts_nil) (fun _ _ _ _ _ => (pe_cmpR (oNe hr.units) (pe_ix ix_seq (pv 3) (pv 8) (fun _ _ => rfl)) (pe_ix ix_seq (pv 4) (pv 8) (fun _ _ => rfl)) (nomark _)))) pa_nil))) (pss_one (ps_ret pe_int)) pss_nil)
    (pss_cons (ps_set (i := 5) sc_ways_said.nd rfl (by first | exact Or.inl rfl | exact Or.inr rfl) (dCall (E := E) cl_lots_left hr (by decide) (by rfl) (L2N.passes_call (L2N.takes_of rfl rfl rfl rfl) fun _ _ _ _ h => h) (pa_cons (pv 0) (pa_cons (pv 1) (pa_cons (pv 2) pa_nil)))))
    (pss_cons (ps_if (pt_cmpR (oNe hr.units) (dCall (E := E) cl_sums_of hr (by decide) (by rfl) (L2N.passes_call (L2N.takes_of rfl rfl rfl rfl) fun _ _ _ _ h => h) (pa_cons (pv 5) (pa_cons (pv 3) pa_nil))) (dCall (E := E) cl_sums_of hr (by decide) (by rfl) (L2N.passes_call (L2N.takes_of rfl rfl rfl rfl) fun _ _ _ _ h => h) (pa_cons (pv 5) (pa_cons (pv 4) pa_nil))) (nomark _)) (pss_one (ps_ret pe_int)) pss_nil)
    (pss_cons (ps_set (i := 6) sc_ways_said.nd rfl (by first | exact Or.inl rfl | exact Or.inr rfl) pe_int)
    (pss_cons (ps_for (passes_of rfl) rfl (pi_range1 (by rfl) n_range (pa_cons (pe_op oAdd (pe_op oSub (pe_callB cLen (by rfl) n_len (by decide +kernel) (pa_cons (dCall (E := E) cl_hidden_edges hr (by decide) (by rfl) (L2N.passes_call (L2N.takes_of rfl rfl rfl rfl) fun _ _ _ _ h => h) (pa_cons (pv 1) (pa_cons (pv 2) pa_nil))) pa_nil)) (pe_op oSub (pv 0) (pe_callB cLen (by rfl) n_len (by decide +kernel) (pa_cons (pv 2) pa_nil)))) (pe_callB cLen (by rfl) n_len (by decide +kernel) (pa_cons (pv 5) pa_nil))) pa_nil)) (pg_name (i := 7) sc_ways_said.nd rfl (by first | exact Or.inl rfl | exact Or.inr rfl)) (pss_one (ps_set (i := 6) sc_ways_said.nd rfl (by first | exact Or.inl rfl | exact Or.inr rfl) (pe_op oMul pe_int (pv 6)))))
    (pss_one (ps_ret (pv 6))))))))))))
theorem der__law_pool {P : Program} {w : World} {K : PySem.W.Frag} {mg : Str → Option Value} {base : Heap} {f : Addr} (n_int : mg "int" = none) (n_len : mg "len" = none) (n_range : mg "range" = none) (cdv : Value) (A : Around) (outer : List Env) (s : Shared) (H : Hp) (E : XK) (hr : Room 0 (A.deeper (envOfC "_law_pool" (defScope s__law_pool) s.heap.objs.size f cdv))) :
    PSs (cxOf (L2N.CX P w) P w K mg base N__law_pool "_law_pool" (defScope s__law_pool) f cdv A outer s H E) (defBody s__law_pool) (t__law_pool K w E) :=
  (pss_cons (ps_set (i := 1) sc__law_pool.nd rfl (by first | exact Or.inl rfl | exact Or.inr rfl) pe_int)
    (pss_cons (ps_set (i := 2) sc__law_pool.nd rfl (by first | exact Or.inl rfl | exact Or.inr rfl) (pe_lst pa_nil))
    (pss_cons (ps_for (passes_of rfl) rfl (pi_range1 (by rfl) n_range (pa_cons (pe_callB cLen (by rfl) n_len (by decide +kernel) (pa_cons (pv 0) pa_nil)) pa_nil)) (pg_name (i := 3) sc__law_pool.nd rfl (by first | exact Or.inl rfl | exact Or.inr rfl)) (pss_cons (ps_set (i := 1) sc__law_pool.nd rfl (by first | exact Or.inl rfl | exact Or.inr rfl) (pe_op oMod (pe_callTy cInt (by rfl) n_int (by decide +kernel) (pa_cons (pe_op oAdd (pe_op oAdd (pe_op oAdd (pe_op oMul (pv 1) (pv 1)) (pe_ix ix_seq (pv 0) (pv 3) (fun _ _ => rfl))) (pv 3)) pe_int) pa_nil)) pe_int))
    (pss_cons (ps_set (i := 1) sc__law_pool.nd rfl (by first | exact Or.inl rfl | exact Or.inr rfl) (pe_op oMod (pe_callTy cInt (by rfl) n_int (by decide +kernel) (pa_cons (pe_op oAdd (pe_op oMul (pv 1) (pv 1)) pe_int) pa_nil)) pe_int))
    (pss_one (ps_if (pt_cmpR oGe (pe_ix ix_seq (pv 0) (pv 3) (fun _ _ => rfl)) pe_int (nomark _)) (pss_one (ps_expr (pe_bm PySem.F.plainAttrs_list PySem.F.slot_list_append PySem.F.type_list_append mt_append (pv 2) (pa_cons (pe_ix ix_seq (pv 0) (pv 3) (fun _ _ => rfl)) pa_nil)))) pss_nil)))))
    (pss_one (ps_ret (pe_op oAdd (pe_lst (pa_cons (pv 1) (pa_cons pe_int pa_nil))) (pv 2)))))))
theorem der__law_take {P : Program} {w : World} {K : PySem.W.Frag} {mg : Str → Option Value} {base : Heap} {f : Addr} (n_int : mg "int" = none) (n_len : mg "len" = none) (cdv : Value) (A : Around) (outer : List Env) (s : Shared) (H : Hp) (E : XK) (hr : Room 0 (A.deeper (envOfC "_law_take" (defScope s__law_take) s.heap.objs.size f cdv))) :
    PSs (cxOf (L2N.CX P w) P w K mg base N__law_take "_law_take" (defScope s__law_take) f cdv A outer s H E) (defBody s__law_take) (t__law_take K w E) :=
  (pss_cons (ps_if (PW.pt (pw_and (pt_cmpR (oEq hr.units) (pe_ix ix_seq (pv 0) pe_int (fun _ _ => rfl)) pe_int (nomark _)) (pw_and1 (pt_cmpR oGt (pe_callB cLen (by rfl) n_len (by decide +kernel) (pa_cons (pv 0) pa_nil)) pe_int (nomark _))))) (pss_one (ps_asg (pe_bm PySem.F.plainAttrs_list PySem.F.slot_list_pop PySem.F.type_list_pop mt_popAt (pv 0) (pa_cons pe_int pa_nil)) (pg_sub (pv 0) pe_int set_list))) pss_nil)
    (pss_cons (ps_if (pt_cmpR oGt (pe_ix ix_seq (pv 0) pe_int (fun _ _ => rfl)) pe_int (nomark _)) (pss_cons (ps_set (i := 2) sc__law_take.nd rfl (by first | exact Or.inl rfl | exact Or.inr rfl) (pe_op oMod (pe_callTy cInt (by rfl) n_int (by decide +kernel) (pa_cons (pe_ix ix_seq (pv 0) pe_int (fun _ _ => rfl)) pa_nil)) (pv 1)))
    (pss_cons (ps_asg (pe_op oDiv (pe_ix ix_seq (pv 0) pe_int (fun _ _ => rfl)) (pv 1)) (pg_sub (pv 0) pe_int set_list))
    (pss_one (ps_ret (pv 2))))) pss_nil)
    (pss_cons (ps_set (i := 3) sc__law_take.nd rfl (by first | exact Or.inl rfl | exact Or.inr rfl) (pe_op oMod (pe_callTy cInt (by rfl) n_int (by decide +kernel) (pa_cons (pe_op oAdd (pe_op oMul (pe_ix ix_seq (pv 0) pe_int (fun _ _ => rfl)) (pe_ix ix_seq (pv 0) pe_int (fun _ _ => rfl))) pe_int) pa_nil)) pe_int))
    (pss_cons (ps_asg (pe_op oMod (pe_callTy cInt (by rfl) n_int (by decide +kernel) (pa_cons (pe_op oAdd (pe_op oMul (pv 3) (pv 3)) pe_int) pa_nil)) pe_int) (pg_sub (pv 0) pe_int set_list))
    (pss_one (ps_ret (pe_op oMod (pe_callTy cInt (by rfl) n_int (by decide +kernel) (pa_cons (pe_op oDiv (pe_ix ix_seq (pv 0) pe_int (fun _ _ => rfl)) pe_int) pa_nil)) (pv 1))))))))
theorem der__law_same {P : Program} {w : World} {K : PySem.W.Frag} {mg : Str → Option Value} {base : Heap} {f : Addr} {sp__law_same : Sp} {kk : Nat} (cl__law_same : Cl P w K mg base kk "_law_same" sp__law_same) (n_bool : mg "bool" = none) (n_int : mg "int" = none) (n_isinstance : mg "isinstance" = none) (n_len : mg "len" = none) (n_range : mg "range" = none) (n_tuple : mg "tuple" = none) (cdv : Value) (A : Around) (outer : List Env) (s : Shared) (H : Hp) (E : XK) (hr : Room kk (A.deeper (envOfC "_law_same" (defScope s__law_same) s.heap.objs.size f cdv))) :
    PSs (cxOf (L2N.CX P w) P w K mg base N__law_same "_law_same" (defScope s__law_same) f cdv A outer s H E) (defBody s__law_same) (t__law_same K w sp__law_same E) :=
  (pss_cons (ps_if (pt_cmpR oIsN (pv 1) pe_non (nomark _)) (pss_one (ps_ret (pe_cmpR oIsN (pv 0) pe_non (nomark _)))) pss_nil)
    (pss_cons (ps_if (pt_val (pe_callB call_isi (by rfl) n_isinstance (by decide +kernel) (pa_cons (pv 1) (pa_cons (pe_bltn (v := .ty "bool") (by rfl) n_bool (by decide +kernel) rfl) pa_nil)))) (pss_one (ps_ret (pe_and (pe_callB call_isi (by rfl) n_isinstance (by decide +kernel) (pa_cons (pv 0) (pa_cons (pe_bltn (v := .ty "bool") (by rfl) n_bool (by decide +kernel) rfl) pa_nil))) (pe_one (pe_cmpR (oEq hr.units) (pv 0) (pv 1) (nomark _)))))) pss_nil)
    (pss_cons (ps_if (pt_val (pe_callB call_isi (by rfl) n_isinstance (by decide +kernel) (pa_cons (pv 1) (pa_cons (pe_bltn (v := .ty "int") (by rfl) n_int (by decide +kernel) rfl) pa_nil)))) (pss_one (ps_ret (pe_and (pe_callB call_isi (by rfl) n_isinstance (by decide +kernel) (pa_cons (pv 0) (pa_cons (pe_bltn (v := .ty "int") (by rfl) n_int (by decide +kernel) rfl) pa_nil))) (pe_and (pe_not (pe_callB call_isi (by rfl) n_isinstance (by decide +kernel) (pa_cons (pv 0) (pa_cons (pe_bltn (v := .ty "bool") (by rfl) n_bool (by decide +kernel) rfl) pa_nil)))) (pe_one (pe_cmpR (oEq hr.units) (pv 0) (pv 1) (nomark _))))))) pss_nil)
    (pss_cons (ps_if (PW.pt (pw_or (pt_not (pt_val (pe_callB call_isi (by rfl) n_isinstance (by decide +kernel) (pa_cons (pv 0) (pa_cons (pe_bltn (v := .ty "tuple") (by rfl) n_tuple (by decide +kernel) rfl) pa_nil))))) (pw_or1 (pt_cmpR (oNe hr.units) (pe_callB cLen (by rfl) n_len (by decide +kernel) (pa_cons (pv 0) pa_nil)) (pe_callB cLen (by rfl) n_len (by decide +kernel) (pa_cons (pv 1) pa_nil)) (nomark _))))) (pss_one (ps_ret pe_bl)) pss_nil)
    (pss_cons (ps_for (passes_of rfl) rfl (pi_range1 (by rfl) n_range (pa_cons (pe_callB cLen (by rfl) n_len (by decide +kernel) (pa_cons (pv 1) pa_nil)) pa_nil)) (pg_name (i := 2) sc__law_same.nd rfl (by first | exact Or.inl rfl | exact Or.inr rfl)) (pss_one (ps_if (pt_not (pt_val (dCall (E := E) cl__law_same hr (Nat.le_refl _) (by rfl) (L2N.passes_call (L2N.takes_of rfl rfl rfl rfl) fun _ _ _ _ h => h) (pa_cons (pe_ix ix_seq (pv 0) (pv 2) (fun _ _ => rfl)) (pa_cons (pe_ix ix_seq (pv 1) (pv 2) (fun _ _ => rfl)) pa_nil))))) (pss_one (ps_ret pe_bl)) pss_nil)))
    (pss_one (ps_ret pe_bl)))))))
theorem der__law_ties {P : Program} {w : World} {K : PySem.W.Frag} {mg : Str → Option Value} {base : Heap} {f : Addr} {sp__law_take : Sp} (cl__law_take : Cl P w K mg base 1 "_law_take" sp__law_take) (n_range : mg "range" = none) (n_tuple : mg "tuple" = none) (cdv : Value) (A : Around) (outer : List Env) (s : Shared) (H : Hp) (E : XK) (hr : Room 1 (A.deeper (envOfC "_law_ties" (defScope s__law_ties) s.heap.objs.size f cdv))) :
    PSs (cxOf (L2N.CX P w) P w K mg base N__law_ties "_law_ties" (defScope s__law_ties) f cdv A outer s H E) (defBody s__law_ties) (t__law_ties K w sp__law_take E) :=
  (pss_cons (ps_set (i := 2) sc__law_ties.nd rfl (by first | exact Or.inl rfl | exact Or.inr rfl) (pe_lst pa_nil))
    (pss_cons (ps_for (passes_of rfl) rfl (pi_range1 (by rfl) n_range (pa_cons (pv 1) pa_nil)) (pg_name (i := 3) sc__law_ties.nd rfl (by first | exact Or.inl rfl | exact Or.inr rfl)) (pss_one (ps_for (passes_of rfl) rfl (pi_range2 (by rfl) n_range (pa_cons (pe_op oAdd (pv 3) pe_int) (pa_cons (pv 1) pa_nil))) (pg_name (i := 4) sc__law_ties.nd rfl (by first | exact Or.inl rfl | exact Or.inr rfl)) (pss_one (ps_expr (pe_bm PySem.F.plainAttrs_list PySem.F.slot_list_append PySem.F.type_list_append mt_append (pv 2) (pa_cons (pe_tup (pa_cons (pv 3) (pa_cons (pv 4) pa_nil))) pa_nil)))))))
    (pss_cons (ps_set (i := 5) sc__law_ties.nd rfl (by first | exact Or.inl rfl | exact Or.inr rfl) (dCall (E := E) cl__law_take hr (by decide) (by rfl) (L2N.passes_call (L2N.takes_of rfl rfl rfl rfl) fun _ _ _ _ h => h) (pa_cons (pv 0) (pa_cons pe_int pa_nil))))
    (pss_cons (ps_if (pt_cmpR (oEq hr.units) (pv 5) pe_int (nomark _)) (pss_one (ps_ret (pe_tupleOf (by rfl) n_tuple (pv 2)))) pss_nil)
    (pss_cons (ps_if (pt_cmpR (oEq hr.units) (pv 5) pe_int (nomark _)) (pss_one (ps_ret (pe_tupleOf (by rfl) n_tuple (pe_lc (own := [("pair", 9)]) rfl sc__law_ties.nd (pi_seq (pv 2)) (blkOk_by (own := [("pair", 9)]) (N := N__law_ties) (sc := defScope s__law_ties) (by decide +kernel)) (fun _ _ _ _ _ => (pg_name (i := 9) sc__law_ties.nd rfl (by first | exact Or.inl rfl | exact Or.inr rfl))) (fun _ _ _ _ _ => (pts_one (PW.pt (pw_or (pt_cmpR (oEq hr.units) (pe_ix ix_seq (pv 9) pe_int (fun _ _ => rfl)) (pe_op oAdd (pe_ix ix_seq (pv 9) pe_int (fun _ _ => rfl)) pe_int) (nomark _)) (pw_or1 (pt_cmpR (oEq hr.units) (pv 9) (pe_tup (pa_cons pe_int (pa_cons (pe_op oSub (pv 1) pe_int) pa_nil))) (nomark _))))))) (fun _ _ _ _ _ => (pv 9)))))) pss_nil)
    (pss_cons (ps_if (pt_cmpR (oEq hr.units) (pv 5) pe_int (nomark _)) (pss_cons (ps_set (i := 6) sc__law_ties.nd rfl (by first | exact Or.inl rfl | exact Or.inr rfl) (dCall (E := E) cl__law_take hr (by decide) (by rfl) (L2N.passes_call (L2N.takes_of rfl rfl rfl rfl) fun _ _ _ _ h => h) (pa_cons (pv 0) (pa_cons (pv 1) pa_nil))))
    (pss_one (ps_ret (pe_tupleOf (by rfl) n_tuple (pe_lc (own := [("pair", 9)]) rfl sc__law_ties.nd (pi_seq (pv 2)) (blkOk_by (own := [("pair", 9)]) (N := N__law_ties) (sc := defScope s__law_ties) (by decide +kernel)) (fun _ _ _ _ _ => (pg_name (i := 9) sc__law_ties.nd rfl (by first | exact Or.inl rfl | exact Or.inr rfl))) (fun _ _ _ _ _ => (pts_one (pt_cmpR (oIn (hu1 hr)) (pv 6) (pv 9) (by rfl)))) (fun _ _ _ _ _ => (pv 9))))))) pss_nil)
    (pss_cons (ps_if (pt_cmpR (oEq hr.units) (pv 5) pe_int (nomark _)) (pss_cons (ps_set (i := 7) sc__law_ties.nd rfl (by first | exact Or.inl rfl | exact Or.inr rfl) (pe_lc (own := [("k", 10)]) rfl sc__law_ties.nd (pi_range1 (by rfl) n_range (pa_cons (pv 1) pa_nil)) (blkOk_by (own := [("k", 10)]) (N := N__law_ties) (sc := defScope s__law_ties) (by decide +kernel)) (fun _ _ _ _ _ => (pg_name (i := 10) sc__law_ties.nd rfl (by first | exact Or.inl rfl | exact Or.inr rfl))) (fun _ _ _ _ _ => pts_nil) (fun _ _ _ _ _ => (dCall (E := E0) cl__law_take hr (by decide) (by rfl) passN (pa_cons (pv 0) (pa_cons pe_int pa_nil))))))
    (pss_one (ps_setLc (i := 2) (own := [("pair", 9)]) rfl sc__law_ties.nd rfl rfl (sw_true rfl rfl rfl (by decide +kernel)) (pi_seq (pv 2)) (blkOk_by (own := [("pair", 9)]) (N := N__law_ties) (sc := defScope s__law_ties) (by decide +kernel)) (fun _ _ _ _ _ => (pg_name (i := 9) sc__law_ties.nd rfl (by first | exact Or.inl rfl | exact Or.inr rfl))) (fun _ _ _ _ _ => (pts_one (pt_cmpR (oEq hr.units) (pe_ix ix_seq (pv 7) (pe_ix ix_seq (pv 9) pe_int (fun _ _ => rfl)) (fun _ _ => rfl)) (pe_ix ix_seq (pv 7) (pe_ix ix_seq (pv 9) pe_int (fun _ _ => rfl)) (fun _ _ => rfl)) (nomark _)))) (fun _ _ _ _ _ => (pv 9))))) pss_nil)
    (pss_cons (ps_set (i := 8) sc__law_ties.nd rfl (by first | exact Or.inl rfl | exact Or.inr rfl) (pe_op oAdd pe_int (dCall (E := E) cl__law_take hr (by decide) (by rfl) (L2N.passes_call (L2N.takes_of rfl rfl rfl rfl) fun _ _ _ _ h => h) (pa_cons (pv 0) (pa_cons pe_int pa_nil)))))
    (pss_one (ps_ret (pe_tupleOf (by rfl) n_tuple (pe_lc (own := [("pair", 9)]) rfl sc__law_ties.nd (pi_seq (pv 2)) (blkOk_by (own := [("pair", 9)]) (N := N__law_ties) (sc := defScope s__law_ties) (by decide +kernel)) (fun _ _ _ _ _ => (pg_name (i := 9) sc__law_ties.nd rfl (by first | exact Or.inl rfl | exact Or.inr rfl))) (fun _ _ _ _ _ => (pts_one (pt_cmpR (oEq hr.units) (dCall (E := E0) cl__law_take hr (by decide) (by rfl) passN (pa_cons (pv 0) (pa_cons (pv 8) pa_nil))) pe_int (nomark _)))) (fun _ _ _ _ _ => (pv 9))))))))))))))
theorem der__law_group {P : Program} {w : World} {K : PySem.W.Frag} {mg : Str → Option Value} {base : Heap} {f : Addr} {sp__law_take : Sp} (cl__law_take : Cl P w K mg base 1 "_law_take" sp__law_take) (n_int : mg "int" = none) (n_list : mg "list" = none) (n_range : mg "range" = none) (n_tuple : mg "tuple" = none) (cdv : Value) (A : Around) (outer : List Env) (s : Shared) (H : Hp) (E : XK) (hr : Room 1 (A.deeper (envOfC "_law_group" (defScope s__law_group) s.heap.objs.size f cdv))) :
    PSs (cxOf (L2N.CX P w) P w K mg base N__law_group "_law_group" (defScope s__law_group) f cdv A outer s H E) (defBody s__law_group) (t__law_group K w sp__law_take E) :=
  (pss_cons (ps_set (i := 2) sc__law_group.nd rfl (by first | exact Or.inl rfl | exact Or.inr rfl) (dCall (E := E) cl__law_take hr (by decide) (by rfl) (L2N.passes_call (L2N.takes_of rfl rfl rfl rfl) fun _ _ _ _ h => h) (pa_cons (pv 0) (pa_cons pe_int pa_nil))))
    (pss_cons (ps_if (pt_cmpR (oEq hr.units) (pv 2) pe_int (nomark _)) (pss_one (ps_ret (pe_tup pa_nil))) pss_nil)
    (pss_cons (ps_if (pt_cmpR (oEq hr.units) (pv 2) pe_int (nomark _)) (pss_one (ps_ret (pe_tupleOf (by rfl) n_tuple (pe_listRg rfl (by rfl) n_list (prg_1 (by rfl) n_range (pv 1)))))) pss_nil)
    (pss_cons (ps_set (i := 3) sc__law_group.nd rfl (by first | exact Or.inl rfl | exact Or.inr rfl) (pe_op oAdd pe_int (pe_op oMod (pe_callTy cInt (by rfl) n_int (by decide +kernel) (pa_cons (pv 2) pa_nil)) pe_int)))
    (pss_one (ps_ret (pe_tupleOf (by rfl) n_tuple (pe_lc (own := [("k", 4)]) rfl sc__law_group.nd (pi_range1 (by rfl) n_range (pa_cons (pv 1) pa_nil)) (blkOk_by (own := [("k", 4)]) (N := N__law_group) (sc := defScope s__law_group) (by decide +kernel)) (fun _ _ _ _ _ => (pg_name (i := 4) sc__law_group.nd rfl (by first | exact Or.inl rfl | exact Or.inr rfl))) (fun _ _ _ _ _ => (pts_one (pt_cmpR (oEq hr.units) (dCall (E := E0) cl__law_take hr (by decide) (by rfl) passN (pa_cons (pv 0) (pa_cons (pv 3) pa_nil))) pe_int (nomark _)))) (fun _ _ _ _ _ => (pv 4))))))))))
theorem der__law_ways {P : Program} {w : World} {K : PySem.W.Frag} {mg : Str → Option Value} {base : Heap} {f : Addr} (cdv : Value) (A : Around) (outer : List Env) (s : Shared) (H : Hp) (E : XK) (hr : Room 0 (A.deeper (envOfC "_law_ways" (defScope s__law_ways) s.heap.objs.size f cdv))) :
    PSs (cxOf (L2N.CX P w) P w K mg base N__law_ways "_law_ways" (defScope s__law_ways) f cdv A outer s H E) (defBody s__law_ways) (t__law_ways K w E) :=
  (pss_cons (ps_set (i := 2) sc__law_ways.nd rfl (by first | exact Or.inl rfl | exact Or.inr rfl) (pe_frz (pe_disp (pps_cons pe_int pe_int pps_nil) (by rfl) (by rfl) (fun z => by cases z) (by decide))))
    (pss_cons (ps_for (passes_of rfl) rfl (pi_seq (pv 0)) (pg_name (i := 3) sc__law_ways.nd rfl (by first | exact Or.inl rfl | exact Or.inr rfl)) (pss_cons (ps_if (PW.pt (pw_or (pt_cmpR (oIn (hu1 hr)) (pe_ix ix_seq (pv 3) pe_int (fun _ _ => rfl)) (pv 1) (by rfl)) (pw_or1 (pt_cmpR (oIn (hu1 hr)) (pe_ix ix_seq (pv 3) pe_int (fun _ _ => rfl)) (pv 1) (by rfl))))) (pss_one ps_continue) pss_nil)
    (pss_cons (ps_set (i := 4) sc__law_ways.nd rfl (by first | exact Or.inl rfl | exact Or.inr rfl) (pe_op oOr (pe_op oShl pe_int (pe_ix ix_seq (pv 3) pe_int (fun _ _ => rfl))) (pe_op oShl pe_int (pe_ix ix_seq (pv 3) pe_int (fun _ _ => rfl)))))
    (pss_cons (ps_set (i := 5) sc__law_ways.nd rfl (by first | exact Or.inl rfl | exact Or.inr rfl) pe_dnewK)
    (pss_cons (ps_for (passes_of rfl) rfl (pi_keys (pv 2)) (pg_name (i := 6) sc__law_ways.nd rfl (by first | exact Or.inl rfl | exact Or.inr rfl)) (pss_cons (ps_dput (hu_of hr) (pv 5) (pv 6) (pe_op oAdd (pe_dget2 (hu_of hr) (pv 5) (pv 6) pe_int ⟨rfl, rfl, rfl, rfl⟩) (pe_dget (hu_of hr) (pv 2) (pv 6) (fun _ _ => rfl))) (by rfl))
    (pss_one (ps_dput (hu_of hr) (pv 5) (pe_op oXor (pv 6) (pv 4)) (pe_op oAdd (pe_dget2 (hu_of hr) (pv 5) (pe_op oXor (pv 6) (pv 4)) pe_int ⟨rfl, rfl, rfl, rfl⟩) (pe_dget (hu_of hr) (pv 2) (pv 6) (fun _ _ => rfl))) (by rfl)))))
    (pss_one (ps_set (i := 2) sc__law_ways.nd rfl (by first | exact Or.inl rfl | exact Or.inr rfl) (pe_frz (pv 5)))))))))
    (pss_one (ps_ret (pv 2)))))
theorem der__law_mask {P : Program} {w : World} {K : PySem.W.Frag} {mg : Str → Option Value} {base : Heap} {f : Addr} (n_len : mg "len" = none) (n_range : mg "range" = none) (n_sum : mg "sum" = none) (cdv : Value) (A : Around) (outer : List Env) (s : Shared) (H : Hp) (E : XK) (hr : Room 0 (A.deeper (envOfC "_law_mask" (defScope s__law_mask) s.heap.objs.size f cdv))) :
    PSs (cxOf (L2N.CX P w) P w K mg base N__law_mask "_law_mask" (defScope s__law_mask) f cdv A outer s H E) (defBody s__law_mask) (t__law_mask K w E) :=
  (pss_one (ps_ret (pe_callB (cr_sumA rfl) (by rfl) n_sum (by decide +kernel) (pa_cons (pe_lc (own := [("k", 1)]) rfl sc__law_mask.nd (pi_range1 (by rfl) n_range (pa_cons (pe_callB cLen (by rfl) n_len (by decide +kernel) (pa_cons (pv 0) pa_nil)) pa_nil)) (blkOk_by (own := [("k", 1)]) (N := N__law_mask) (sc := defScope s__law_mask) (by decide +kernel)) (fun _ _ _ _ _ => (pg_name (i := 1) sc__law_mask.nd rfl (by first | exact Or.inl rfl | exact Or.inr rfl))) (fun _ _ _ _ _ => pts_nil) (fun _ _ _ _ _ => (pe_op oShl (pe_ix ix_seq (pv 0) (pv 1) (fun _ _ => rfl)) (pv 1)))) pa_nil))))
theorem der__law_bits {P : Program} {w : World} {K : PySem.W.Frag} {mg : Str → Option Value} {base : Heap} {f : Addr} (n_range : mg "range" = none) (cdv : Value) (A : Around) (outer : List Env) (s : Shared) (H : Hp) (E : XK) (hr : Room 0 (A.deeper (envOfC "_law_bits" (defScope s__law_bits) s.heap.objs.size f cdv))) :
    PSs (cxOf (L2N.CX P w) P w K mg base N__law_bits "_law_bits" (defScope s__law_bits) f cdv A outer s H E) (defBody s__law_bits) (t__law_bits K w E) :=
  (pss_one (ps_ret (pe_lc (own := [("k", 2)]) rfl sc__law_bits.nd (pi_range1 (by rfl) n_range (pa_cons (pv 1) pa_nil)) (blkOk_by (own := [("k", 2)]) (N := N__law_bits) (sc := defScope s__law_bits) (by decide +kernel)) (fun _ _ _ _ _ => (pg_name (i := 2) sc__law_bits.nd rfl (by first | exact Or.inl rfl | exact Or.inr rfl))) (fun _ _ _ _ _ => pts_nil) (fun _ _ _ _ _ => (pe_op oAnd (pe_op oShr (pv 0) (pv 2)) pe_int)))))
theorem der__law_way_fits {P : Program} {w : World} {K : PySem.W.Frag} {mg : Str → Option Value} {base : Heap} {f : Addr} {sp__law_same : Sp} {sp__law_take : Sp} {sp_ways_said : Sp} (cl__law_same : Cl P w K mg base 9 "_law_same" sp__law_same) (cl__law_take : Cl P w K mg base 1 "_law_take" sp__law_take) (cl_ways_said : Cl P w K mg base 6 "ways_said" sp_ways_said) (n_list : mg "list" = none) (n_tuple : mg "tuple" = none) (cdv : Value) (A : Around) (outer : List Env) (s : Shared) (H : Hp) (E : XK) (hr : Room 9 (A.deeper (envOfC "_law_way_fits" (defScope s__law_way_fits) s.heap.objs.size f cdv))) :
    PSs (cxOf (L2N.CX P w) P w K mg base N__law_way_fits "_law_way_fits" (defScope s__law_way_fits) f cdv A outer s H E) (defBody s__law_way_fits) (t__law_way_fits K w sp__law_same sp__law_take sp_ways_said E) :=
  (pss_cons (ps_set (i := 7) sc__law_way_fits.nd rfl (by first | exact Or.inl rfl | exact Or.inr rfl) (pe_callTy cList (by rfl) n_list (by decide +kernel) (pa_cons (pv 4) pa_nil)))
    (pss_cons (ps_set (i := 8) sc__law_way_fits.nd rfl (by first | exact Or.inl rfl | exact Or.inr rfl) (pe_callTy cList (by rfl) n_list (by decide +kernel) (pa_cons (pv 5) pa_nil)))
    (pss_cons (ps_set (i := 9) sc__law_way_fits.nd rfl (by first | exact Or.inl rfl | exact Or.inr rfl) (dCall (E := E) cl__law_take hr (by decide) (by rfl) (L2N.passes_call (L2N.takes_of rfl rfl rfl rfl) fun _ _ _ _ h => h) (pa_cons (pv 0) (pa_cons pe_int pa_nil))))
    (pss_cons (ps_if (pt_cmpR (oEq hr.units) (pv 9) pe_int (nomark _)) (pss_one (ps_set (i := 10) sc__law_way_fits.nd rfl (by first | exact Or.inl rfl | exact Or.inr rfl) (dCall (E := E) cl_ways_said hr (by decide) (by rfl) (L2N.passes_call (L2N.takes_of rfl rfl rfl rfl) fun _ _ _ _ h => h) (pa_cons (pv 1) (pa_cons (pv 2) (pa_cons (pv 3) (pa_cons (pv 7) (pa_cons (pe_tupleOf (by rfl) n_tuple (pv 5)) pa_nil)))))))) (pss_one (ps_if (pt_cmpR (oEq hr.units) (pv 9) pe_int (nomark _)) (pss_one (ps_set (i := 10) sc__law_way_fits.nd rfl (by first | exact Or.inl rfl | exact Or.inr rfl) (dCall (E := E) cl_ways_said hr (by decide) (by rfl) (L2N.passes_call (L2N.takes_of rfl rfl rfl rfl) fun _ _ _ _ h => h) (pa_cons (pv 1) (pa_cons (pv 2) (pa_cons (pv 3) (pa_cons (pe_tupleOf (by rfl) n_tuple (pv 4)) (pa_cons (pv 8) pa_nil)))))))) (pss_one (ps_set (i := 10) sc__law_way_fits.nd rfl (by first | exact Or.inl rfl | exact Or.inr rfl) (dCall (E := E) cl_ways_said hr (by decide) (by rfl) (L2N.passes_call (L2N.takes_of rfl rfl rfl rfl) fun _ _ _ _ h => h) (pa_cons (pv 1) (pa_cons (pv 2) (pa_cons (pv 3) (pa_cons (pv 7) (pa_cons (pv 8) pa_nil)))))))))))
    (pss_one (ps_ret (pe_and (pe_cmpR (oEq hr.units) (pv 7) (pv 4) (nomark _)) (pe_and (pe_cmpR (oEq hr.units) (pv 8) (pv 5) (nomark _)) (pe_one (dCall (E := E) cl__law_same hr (by decide) (by rfl) (L2N.passes_call (L2N.takes_of rfl rfl rfl rfl) fun _ _ _ _ h => h) (pa_cons (pv 10) (pa_cons (pv 6) pa_nil))))))))))))
theorem der__law_all_words_fit {P : Program} {w : World} {K : PySem.W.Frag} {mg : Str → Option Value} {base : Heap} {f : Addr} {sp__law_bits : Sp} {sp__law_mask : Sp} {sp__law_way_fits : Sp} (cl__law_bits : Cl P w K mg base 1 "_law_bits" sp__law_bits) (cl__law_mask : Cl P w K mg base 1 "_law_mask" sp__law_mask) (cl__law_way_fits : Cl P w K mg base 10 "_law_way_fits" sp__law_way_fits) (n_len : mg "len" = none) (n_range : mg "range" = none) (cdv : Value) (A : Around) (outer : List Env) (s : Shared) (H : Hp) (E : XK) (hr : Room 10 (A.deeper (envOfC "_law_all_words_fit" (defScope s__law_all_words_fit) s.heap.objs.size f cdv))) :
    PSs (cxOf (L2N.CX P w) P w K mg base N__law_all_words_fit "_law_all_words_fit" (defScope s__law_all_words_fit) f cdv A outer s H E) (defBody s__law_all_words_fit) (t__law_all_words_fit K w sp__law_bits sp__law_mask sp__law_way_fits E) :=
  (pss_cons (ps_set (i := 6) sc__law_all_words_fit.nd rfl (by first | exact Or.inl rfl | exact Or.inr rfl) pe_int)
    (pss_cons (ps_for (passes_of rfl) rfl (pi_range1 (by rfl) n_range (pa_cons (pe_op oShl pe_int (pv 1)) pa_nil)) (pg_name (i := 7) sc__law_all_words_fit.nd rfl (by first | exact Or.inl rfl | exact Or.inr rfl)) (pss_cons (ps_set (i := 8) sc__law_all_words_fit.nd rfl (by first | exact Or.inl rfl | exact Or.inr rfl) (pe_dget2 (hu_of hr) (pv 5) (pe_op oXor (pv 7) (dCall (E := E) cl__law_mask hr (by decide) (by rfl) (L2N.passes_call (L2N.takes_of rfl rfl rfl rfl) fun _ _ _ _ h => h) (pa_cons (pv 4) pa_nil))) pe_int ⟨rfl, rfl, rfl, rfl⟩))
    (pss_cons (ps_set (i := 6) sc__law_all_words_fit.nd rfl (by first | exact Or.inl rfl | exact Or.inr rfl) (pe_op oAdd (pv 6) (pv 8)))
    (pss_one (ps_if (pt_not (pt_val (dCall (E := E) cl__law_way_fits hr (by decide) (by rfl) (L2N.passes_call (L2N.takes_of rfl rfl rfl rfl) fun _ _ _ _ h => h) (pa_cons (pv 0) (pa_cons (pv 1) (pa_cons (pv 2) (pa_cons (pv 3) (pa_cons (pv 4) (pa_cons (dCall (E := E) cl__law_bits hr (by decide) (by rfl) (L2N.passes_call (L2N.takes_of rfl rfl rfl rfl) fun _ _ _ _ h => h) (pa_cons (pv 7) (pa_cons (pv 1) pa_nil))) (pa_cons (pv 8) pa_nil)))))))))) (pss_one (ps_ret pe_bl)) pss_nil)))))
    (pss_cons (ps_setLc (i := 9) (own := [("pair", 10)]) rfl sc__law_all_words_fit.nd rfl rfl (sw_true rfl rfl rfl (by decide +kernel)) (pi_seq (pv 2)) (blkOk_by (own := [("pair", 10)]) (N := N__law_all_words_fit) (sc := defScope s__law_all_words_fit) (by decide +kernel)) (fun _ _ _ _ _ => (pg_name (i := 10) sc__law_all_words_fit.nd rfl (by first | exact Or.inl rfl | exact Or.inr rfl))) (fun _ _ _ _ _ => (pts_one (PW.pt (pw_and (pt_cmpR (oNi (hu1 hr)) (pe_ix ix_seq (pv 10) pe_int (fun _ _ => rfl)) (pv 3) (by rfl)) (pw_and1 (pt_cmpR (oNi (hu1 hr)) (pe_ix ix_seq (pv 10) pe_int (fun _ _ => rfl)) (pv 3) (by rfl))))))) (fun _ _ _ _ _ => (pv 10)))
    (pss_one (ps_ret (pe_cmpR (oEq hr.units) (pv 6) (pe_op oShl pe_int (pe_callB cLen (by rfl) n_len (by decide +kernel) (pa_cons (pv 9) pa_nil))) (nomark _)))))))
theorem der__law_some_words_fit {P : Program} {w : World} {K : PySem.W.Frag} {mg : Str → Option Value} {base : Heap} {f : Addr} {sp__law_bits : Sp} {sp__law_mask : Sp} {sp__law_take : Sp} {sp__law_way_fits : Sp} (cl__law_bits : Cl P w K mg base 1 "_law_bits" sp__law_bits) (cl__law_mask : Cl P w K mg base 1 "_law_mask" sp__law_mask) (cl__law_take : Cl P w K mg base 1 "_law_take" sp__law_take) (cl__law_way_fits : Cl P w K mg base 10 "_law_way_fits" sp__law_way_fits) (cdv : Value) (A : Around) (outer : List Env) (s : Shared) (H : Hp) (E : XK) (hr : Room 10 (A.deeper (envOfC "_law_some_words_fit" (defScope s__law_some_words_fit) s.heap.objs.size f cdv))) :
    PSs (cxOf (L2N.CX P w) P w K mg base N__law_some_words_fit "_law_some_words_fit" (defScope s__law_some_words_fit) f cdv A outer s H E) (defBody s__law_some_words_fit) (t__law_some_words_fit K w sp__law_bits sp__law_mask sp__law_take sp__law_way_fits E) :=
  (pss_cons (ps_set (i := 6) sc__law_some_words_fit.nd rfl (by first | exact Or.inl rfl | exact Or.inr rfl) (dCall (E := E) cl__law_mask hr (by decide) (by rfl) (L2N.passes_call (L2N.takes_of rfl rfl rfl rfl) fun _ _ _ _ h => h) (pa_cons (pv 4) pa_nil)))
    (pss_cons (ps_for (passes_of rfl) rfl (pi_seq (pv 2)) (pg_name (i := 7) sc__law_some_words_fit.nd rfl (by first | exact Or.inl rfl | exact Or.inr rfl)) (pss_one (ps_if (PW.pt (pw_and (pt_cmpR (oNi (hu1 hr)) (pe_ix ix_seq (pv 7) pe_int (fun _ _ => rfl)) (pv 3) (by rfl)) (pw_and (pt_cmpR (oNi (hu1 hr)) (pe_ix ix_seq (pv 7) pe_int (fun _ _ => rfl)) (pv 3) (by rfl)) (pw_and1 (pt_cmpR (oEq hr.units) (dCall (E := E) cl__law_take hr (by decide) (by rfl) (L2N.passes_call (L2N.takes_of rfl rfl rfl rfl) fun _ _ _ _ h => h) (pa_cons (pv 0) (pa_cons pe_int pa_nil))) pe_int (nomark _)))))) (pss_one (ps_set (i := 6) sc__law_some_words_fit.nd rfl (by first | exact Or.inl rfl | exact Or.inr rfl) (pe_op oXor (pv 6) (pe_op oOr (pe_op oShl pe_int (pe_ix ix_seq (pv 7) pe_int (fun _ _ => rfl))) (pe_op oShl pe_int (pe_ix ix_seq (pv 7) pe_int (fun _ _ => rfl))))))) pss_nil)))
    (pss_cons (ps_set (i := 8) sc__law_some_words_fit.nd rfl (by first | exact Or.inl rfl | exact Or.inr rfl) (pe_op oShl pe_int (dCall (E := E) cl__law_take hr (by decide) (by rfl) (L2N.passes_call (L2N.takes_of rfl rfl rfl rfl) fun _ _ _ _ h => h) (pa_cons (pv 0) (pa_cons (pv 1) pa_nil)))))
    (pss_cons (ps_set (i := 9) sc__law_some_words_fit.nd rfl (by first | exact Or.inl rfl | exact Or.inr rfl) (pe_op oShl pe_int (dCall (E := E) cl__law_take hr (by decide) (by rfl) (L2N.passes_call (L2N.takes_of rfl rfl rfl rfl) fun _ _ _ _ h => h) (pa_cons (pv 0) (pa_cons (pv 1) pa_nil)))))
    (pss_cons (ps_for (passes_of rfl) rfl (pi_seq (pe_tup (pa_cons (pv 6) (pa_cons (pe_op oXor (pv 6) (pv 8)) (pa_cons (pe_op oXor (pe_op oXor (pv 6) (pv 8)) (pv 9)) (pa_cons (dCall (E := E) cl__law_take hr (by decide) (by rfl) (L2N.passes_call (L2N.takes_of rfl rfl rfl rfl) fun _ _ _ _ h => h) (pa_cons (pv 0) (pa_cons (pe_op oShl pe_int (pv 1)) pa_nil))) pa_nil)))))) (pg_name (i := 10) sc__law_some_words_fit.nd rfl (by first | exact Or.inl rfl | exact Or.inr rfl)) (pss_cons (ps_set (i := 11) sc__law_some_words_fit.nd rfl (by first | exact Or.inl rfl | exact Or.inr rfl) (pe_dget2 (hu_of hr) (pv 5) (pe_op oXor (pv 10) (dCall (E := E) cl__law_mask hr (by decide) (by rfl) (L2N.passes_call (L2N.takes_of rfl rfl rfl rfl) fun _ _ _ _ h => h) (pa_cons (pv 4) pa_nil))) pe_int ⟨rfl, rfl, rfl, rfl⟩))
    (pss_one (ps_if (pt_not (pt_val (dCall (E := E) cl__law_way_fits hr (by decide) (by rfl) (L2N.passes_call (L2N.takes_of rfl rfl rfl rfl) fun _ _ _ _ h => h) (pa_cons (pv 0) (pa_cons (pv 1) (pa_cons (pv 2) (pa_cons (pv 3) (pa_cons (pv 4) (pa_cons (dCall (E := E) cl__law_bits hr (by decide) (by rfl) (L2N.passes_call (L2N.takes_of rfl rfl rfl rfl) fun _ _ _ _ h => h) (pa_cons (pv 10) (pa_cons (pv 1) pa_nil))) (pa_cons (pv 11) pa_nil)))))))))) (pss_one (ps_ret pe_bl)) pss_nil))))
    (pss_cons (ps_set (i := 12) sc__law_some_words_fit.nd rfl (by first | exact Or.inl rfl | exact Or.inr rfl) (dCall (E := E) cl__law_take hr (by decide) (by rfl) (L2N.passes_call (L2N.takes_of rfl rfl rfl rfl) fun _ _ _ _ h => h) (pa_cons (pv 0) (pa_cons (pe_op oShl pe_int (pv 1)) pa_nil))))
    (pss_cons (ps_set (i := 13) sc__law_some_words_fit.nd rfl (by first | exact Or.inl rfl | exact Or.inr rfl) (dCall (E := E) cl__law_bits hr (by decide) (by rfl) (L2N.passes_call (L2N.takes_of rfl rfl rfl rfl) fun _ _ _ _ h => h) (pa_cons (pe_op oXor (dCall (E := E) cl__law_mask hr (by decide) (by rfl) (L2N.passes_call (L2N.takes_of rfl rfl rfl rfl) fun _ _ _ _ h => h) (pa_cons (pv 4) pa_nil)) (pv 12)) (pa_cons (pv 1) pa_nil))))
    (pss_cons (ps_set (i := 11) sc__law_some_words_fit.nd rfl (by first | exact Or.inl rfl | exact Or.inr rfl) (pe_dget2 (hu_of hr) (pv 5) (pe_op oXor (pv 6) (dCall (E := E) cl__law_mask hr (by decide) (by rfl) (L2N.passes_call (L2N.takes_of rfl rfl rfl rfl) fun _ _ _ _ h => h) (pa_cons (pv 4) pa_nil))) pe_int ⟨rfl, rfl, rfl, rfl⟩))
    (pss_one (ps_ret (pe_and (pe_cmpR oGt (pv 11) pe_int (nomark _)) (pe_one (dCall (E := E) cl__law_way_fits hr (by decide) (by rfl) (L2N.passes_call (L2N.takes_of rfl rfl rfl rfl) fun _ _ _ _ h => h) (pa_cons (pv 0) (pa_cons (pv 1) (pa_cons (pv 2) (pa_cons (pv 3) (pa_cons (pv 13) (pa_cons (dCall (E := E) cl__law_bits hr (by decide) (by rfl) (L2N.passes_call (L2N.takes_of rfl rfl rfl rfl) fun _ _ _ _ h => h) (pa_cons (pe_op oXor (pv 6) (pv 12)) (pa_cons (pv 1) pa_nil))) (pa_cons (pv 11) pa_nil))))))))))))))))))))
theorem der__law_bad_number {P : Program} {w : World} {K : PySem.W.Frag} {mg : Str → Option Value} {base : Heap} {f : Addr} {sp__law_take : Sp} (cl__law_take : Cl P w K mg base 1 "_law_take" sp__law_take) (cdv : Value) (A : Around) (outer : List Env) (s : Shared) (H : Hp) (E : XK) (hr : Room 1 (A.deeper (envOfC "_law_bad_number" (defScope s__law_bad_number) s.heap.objs.size f cdv))) :
    PSs (cxOf (L2N.CX P w) P w K mg base N__law_bad_number "_law_bad_number" (defScope s__law_bad_number) f cdv A outer s H E) (defBody s__law_bad_number) (t__law_bad_number K w sp__law_take E) :=
  (pss_one (ps_ret (pe_ix ix_seq (pe_tup (pa_cons pe_int (pa_cons pe_int (pa_cons pe_int (pa_cons pe_bl (pa_cons pe_non (pa_cons pe_str (pa_cons (pe_tup (pa_cons pe_int pa_nil)) (pa_cons (pe_op oSub pe_int pe_int) (pa_cons pe_int pa_nil)))))))))) (dCall (E := E) cl__law_take hr (by decide) (by rfl) (L2N.passes_call (L2N.takes_of rfl rfl rfl rfl) fun _ _ _ _ h => h) (pa_cons (pv 0) (pa_cons pe_int pa_nil))) (fun _ _ => rfl))))
theorem der__law_bad_pair {P : Program} {w : World} {K : PySem.W.Frag} {mg : Str → Option Value} {base : Heap} {f : Addr} {sp__law_take : Sp} (cl__law_take : Cl P w K mg base 1 "_law_take" sp__law_take) (n_str : mg "str" = none) (cdv : Value) (A : Around) (outer : List Env) (s : Shared) (H : Hp) (E : XK) (hr : Room 1 (A.deeper (envOfC "_law_bad_pair" (defScope s__law_bad_pair) s.heap.objs.size f cdv))) :
    PSs (cxOf (L2N.CX P w) P w K mg base N__law_bad_pair "_law_bad_pair" (defScope s__law_bad_pair) f cdv A outer s H E) (defBody s__law_bad_pair) (t__law_bad_pair K w sp__law_take E) :=
  (pss_cons (ps_set (i := 4) sc__law_bad_pair.nd rfl (by first | exact Or.inl rfl | exact Or.inr rfl) (dCall (E := E) cl__law_take hr (by decide) (by rfl) (L2N.passes_call (L2N.takes_of rfl rfl rfl rfl) fun _ _ _ _ h => h) (pa_cons (pv 0) (pa_cons pe_int pa_nil))))
    (pss_cons (ps_if (pt_cmpR oLt (pv 4) pe_int (nomark _)) (pss_one (ps_ret (pe_ix ix_seq (pe_tup (pa_cons (pe_tup (pa_cons (pv 3) (pa_cons (pv 2) pa_nil))) (pa_cons (pe_tup (pa_cons (pv 2) (pa_cons (pv 2) pa_nil))) (pa_cons (pe_tup (pa_cons (pv 2) (pa_cons (pv 1) pa_nil))) (pa_cons (pe_tup (pa_cons (pe_op oSub pe_int pe_int) (pa_cons (pv 3) pa_nil))) pa_nil))))) (pv 4) (fun _ _ => rfl)))) pss_nil)
    (pss_cons (ps_if (pt_cmpR oLt (pv 4) pe_int (nomark _)) (pss_one (ps_ret (pe_ix ix_seq (pe_tup (pa_cons (pe_tup (pa_cons (pv 2) (pa_cons (pv 3) (pa_cons (pv 3) pa_nil)))) (pa_cons (pe_tup (pa_cons (pv 2) pa_nil)) (pa_cons (pe_lst (pa_cons (pv 2) (pa_cons (pv 3) pa_nil))) (pa_cons (pe_tup (pa_cons pe_bl (pa_cons (pv 3) pa_nil))) pa_nil))))) (pe_op oSub (pv 4) pe_int) (fun _ _ => rfl)))) pss_nil)
    (pss_one (ps_ret (pe_ix ix_seq (pe_tup (pa_cons pe_non (pa_cons pe_str (pa_cons (pe_tup (pa_cons (pv 2) (pa_cons (pe_callTy cStr (by rfl) n_str (by decide +kernel) (pa_cons (pv 3) pa_nil)) pa_nil))) (pa_cons (pe_tup (pa_cons (pv 2) (pa_cons pe_int pa_nil))) pa_nil))))) (pe_op oSub (pv 4) pe_int) (fun _ _ => rfl)))))))
theorem der__law_bad_ties {P : Program} {w : World} {K : PySem.W.Frag} {mg : Str → Option Value} {base : Heap} {f : Addr} {sp__law_bad_pair : Sp} {sp__law_take : Sp} (cl__law_bad_pair : Cl P w K mg base 2 "_law_bad_pair" sp__law_bad_pair) (cl__law_take : Cl P w K mg base 1 "_law_take" sp__law_take) (n_len : mg "len" = none) (n_list : mg "list" = none) (cdv : Value) (A : Around) (outer : List Env) (s : Shared) (H : Hp) (E : XK) (hr : Room 2 (A.deeper (envOfC "_law_bad_ties" (defScope s__law_bad_ties) s.heap.objs.size f cdv))) :
    PSs (cxOf (L2N.CX P w) P w K mg base N__law_bad_ties "_law_bad_ties" (defScope s__law_bad_ties) f cdv A outer s H E) (defBody s__law_bad_ties) (t__law_bad_ties K w sp__law_bad_pair sp__law_take E) :=
  (pss_cons (ps_set (i := 3) sc__law_bad_ties.nd rfl (by first | exact Or.inl rfl | exact Or.inr rfl) (dCall (E := E) cl__law_take hr (by decide) (by rfl) (L2N.passes_call (L2N.takes_of rfl rfl rfl rfl) fun _ _ _ _ h => h) (pa_cons (pv 0) (pa_cons pe_int pa_nil))))
    (pss_cons (ps_if (pt_cmpR (oEq hr.units) (pv 3) pe_int (nomark _)) (pss_one (ps_ret (pe_callTy cList (by rfl) n_list (by decide +kernel) (pa_cons (pv 2) pa_nil)))) pss_nil)
    (pss_cons (ps_if (pt_cmpR (oEq hr.units) (pv 3) pe_int (nomark _)) (pss_one (ps_ret pe_non)) pss_nil)
    (pss_cons (ps_if (pt_cmpR (oEq hr.units) (pv 3) pe_int (nomark _)) (pss_one (ps_ret pe_str)) pss_nil)
    (pss_cons (ps_if (pt_cmpR (oEq hr.units) (pe_callB cLen (by rfl) n_len (by decide +kernel) (pa_cons (pv 2) pa_nil)) pe_int (nomark _)) (pss_one (ps_ret (pe_tup (pa_cons (dCall (E := E) cl__law_bad_pair hr (by decide) (by rfl) (L2N.passes_call (L2N.takes_of rfl rfl rfl rfl) fun _ _ _ _ h => h) (pa_cons (pv 0) (pa_cons (pv 1) (pa_cons pe_int (pa_cons pe_int pa_nil))))) pa_nil)))) pss_nil)
    (pss_cons (ps_set (i := 4) sc__law_bad_ties.nd rfl (by first | exact Or.inl rfl | exact Or.inr rfl) (dCall (E := E) cl__law_take hr (by decide) (by rfl) (L2N.passes_call (L2N.takes_of rfl rfl rfl rfl) fun _ _ _ _ h => h) (pa_cons (pv 0) (pa_cons (pe_callB cLen (by rfl) n_len (by decide +kernel) (pa_cons (pv 2) pa_nil)) pa_nil))))
    (pss_cons (ps_if (pt_cmpR oLt (pv 3) pe_int (nomark _)) (pss_one (ps_ret (pe_op oAdd (pe_op oAdd (pe_slice sSeq (pv 2) po_none (po_some (pv 4))) (pe_tup (pa_cons (pe_ix ix_seq (pv 2) (pv 4) (fun _ _ => rfl)) pa_nil))) (pe_slice sSeq (pv 2) (po_some (pv 4)) po_none)))) pss_nil)
    (pss_cons (ps_if (PW.pt (pw_and (pt_cmpR oLt (pv 3) pe_int (nomark _)) (pw_and1 (pt_cmpR oGt (pe_callB cLen (by rfl) n_len (by decide +kernel) (pa_cons (pv 2) pa_nil)) pe_int (nomark _))))) (pss_cons (ps_set (i := 4) sc__law_bad_ties.nd rfl (by first | exact Or.inl rfl | exact Or.inr rfl) (dCall (E := E) cl__law_take hr (by decide) (by rfl) (L2N.passes_call (L2N.takes_of rfl rfl rfl rfl) fun _ _ _ _ h => h) (pa_cons (pv 0) (pa_cons (pe_op oSub (pe_callB cLen (by rfl) n_len (by decide +kernel) (pa_cons (pv 2) pa_nil)) pe_int) pa_nil))))
    (pss_one (ps_ret (pe_op oAdd (pe_op oAdd (pe_slice sSeq (pv 2) po_none (po_some (pv 4))) (pe_tup (pa_cons (pe_ix ix_seq (pv 2) (pe_op oAdd (pv 4) pe_int) (fun _ _ => rfl)) (pa_cons (pe_ix ix_seq (pv 2) (pv 4) (fun _ _ => rfl)) pa_nil)))) (pe_slice sSeq (pv 2) (po_some (pe_op oAdd (pv 4) pe_int)) po_none))))) pss_nil)
    (pss_cons (ps_set (i := 5) sc__law_bad_ties.nd rfl (by first | exact Or.inl rfl | exact Or.inr rfl) (dCall (E := E) cl__law_bad_pair hr (by decide) (by rfl) (L2N.passes_call (L2N.takes_of rfl rfl rfl rfl) fun _ _ _ _ h => h) (pa_cons (pv 0) (pa_cons (pv 1) (pa_cons (pe_ix ix_seq (pe_ix ix_seq (pv 2) (pv 4) (fun _ _ => rfl)) pe_int (fun _ _ => rfl)) (pa_cons (pe_ix ix_seq (pe_ix ix_seq (pv 2) (pv 4) (fun _ _ => rfl)) pe_int (fun _ _ => rfl)) pa_nil))))))
    (pss_one (ps_ret (pe_op oAdd (pe_op oAdd (pe_slice sSeq (pv 2) po_none (po_some (pv 4))) (pe_tup (pa_cons (pv 5) pa_nil))) (pe_slice sSeq (pv 2) (po_some (pe_op oAdd (pv 4) pe_int)) po_none)))))))))))))
theorem der__law_bad_group {P : Program} {w : World} {K : PySem.W.Frag} {mg : Str → Option Value} {base : Heap} {f : Addr} {sp__law_take : Sp} (cl__law_take : Cl P w K mg base 1 "_law_take" sp__law_take) (n_list : mg "list" = none) (cdv : Value) (A : Around) (outer : List Env) (s : Shared) (H : Hp) (E : XK) (hr : Room 1 (A.deeper (envOfC "_law_bad_group" (defScope s__law_bad_group) s.heap.objs.size f cdv))) :
    PSs (cxOf (L2N.CX P w) P w K mg base N__law_bad_group "_law_bad_group" (defScope s__law_bad_group) f cdv A outer s H E) (defBody s__law_bad_group) (t__law_bad_group K w sp__law_take E) :=
  (pss_cons (ps_set (i := 3) sc__law_bad_group.nd rfl (by first | exact Or.inl rfl | exact Or.inr rfl) (dCall (E := E) cl__law_take hr (by decide) (by rfl) (L2N.passes_call (L2N.takes_of rfl rfl rfl rfl) fun _ _ _ _ h => h) (pa_cons (pv 0) (pa_cons pe_int pa_nil))))
    (pss_cons (ps_if (pt_cmpR (oEq hr.units) (pv 3) pe_int (nomark _)) (pss_one (ps_ret (pe_callTy cList (by rfl) n_list (by decide +kernel) (pa_cons (pv 2) pa_nil)))) pss_nil)
    (pss_cons (ps_if (pt_cmpR oLt (pv 3) pe_int (nomark _)) (pss_one (ps_ret (pe_ix ix_seq (pe_tup (pa_cons pe_non (pa_cons pe_str (pa_cons (pe_tup (pa_cons (pv 1) pa_nil)) pa_nil)))) (pe_op oSub (pv 3) pe_int) (fun _ _ => rfl)))) pss_nil)
    (pss_cons (ps_if (pt_cmpR oLt (pv 3) pe_int (nomark _)) (pss_one (ps_ret (pe_ix ix_seq (pe_tup (pa_cons (pe_tup (pa_cons (pe_op oSub pe_int pe_int) (pa_cons pe_int pa_nil))) (pa_cons (pe_tup (pa_cons pe_bl pa_nil)) (pa_cons (pe_tup (pa_cons pe_int (pa_cons pe_int pa_nil))) pa_nil)))) (pe_op oSub (pv 3) pe_int) (fun _ _ => rfl)))) pss_nil)
    (pss_one (ps_ret (pe_ix ix_seq (pe_tup (pa_cons (pe_tup (pa_cons pe_int (pa_cons pe_int pa_nil))) (pa_cons (pe_tup (pa_cons pe_non pa_nil)) (pa_cons (pe_op oAdd (pv 2) (pe_tup (pa_cons (pv 1) pa_nil))) pa_nil)))) (pe_op oSub (pv 3) pe_int) (fun _ _ => rfl))))))))
theorem der__law_bad_bits {P : Program} {w : World} {K : PySem.W.Frag} {mg : Str → Option Value} {base : Heap} {f : Addr} {sp__law_take : Sp} (cl__law_take : Cl P w K mg base 1 "_law_take" sp__law_take) (n_len : mg "len" = none) (n_list : mg "list" = none) (n_tuple : mg "tuple" = none) (cdv : Value) (A : Around) (outer : List Env) (s : Shared) (H : Hp) (E : XK) (hr : Room 1 (A.deeper (envOfC "_law_bad_bits" (defScope s__law_bad_bits) s.heap.objs.size f cdv))) :
    PSs (cxOf (L2N.CX P w) P w K mg base N__law_bad_bits "_law_bad_bits" (defScope s__law_bad_bits) f cdv A outer s H E) (defBody s__law_bad_bits) (t__law_bad_bits K w sp__law_take E) :=
  (pss_cons (ps_set (i := 2) sc__law_bad_bits.nd rfl (by first | exact Or.inl rfl | exact Or.inr rfl) (dCall (E := E) cl__law_take hr (by decide) (by rfl) (L2N.passes_call (L2N.takes_of rfl rfl rfl rfl) fun _ _ _ _ h => h) (pa_cons (pv 0) (pa_cons pe_int pa_nil))))
    (pss_cons (ps_if (pt_cmpR (oEq hr.units) (pv 2) pe_int (nomark _)) (pss_one (ps_ret (pe_lst (pa_cons (pe_op oAdd (pv 1) (pe_lst (pa_cons pe_int pa_nil))) (pa_cons pe_int pa_nil))))) pss_nil)
    (pss_cons (ps_if (PW.pt (pw_or (pt_cmpR (oEq hr.units) (pv 2) pe_int (nomark _)) (pw_or1 (pt_cmpR (oEq hr.units) (pe_callB cLen (by rfl) n_len (by decide +kernel) (pa_cons (pv 1) pa_nil)) pe_int (nomark _))))) (pss_one (ps_ret (pe_lst (pa_cons (pe_tupleOf (by rfl) n_tuple (pe_op oAdd (pv 1) (pe_lst (pa_cons pe_int (pa_cons pe_int pa_nil))))) (pa_cons pe_int pa_nil))))) pss_nil)
    (pss_cons (ps_if (pt_cmpR (oEq hr.units) (pv 2) pe_int (nomark _)) (pss_one (ps_ret (pe_lst (pa_cons (pe_slice sSeq (pv 1) po_none (po_some (pe_un uNeg pe_int))) (pa_cons pe_int pa_nil))))) pss_nil)
    (pss_cons (ps_if (pt_cmpR (oEq hr.units) (pv 2) pe_int (nomark _)) (pss_one (ps_ret (pe_lst (pa_cons pe_non (pa_cons pe_int pa_nil))))) pss_nil)
    (pss_cons (ps_if (pt_cmpR (oEq hr.units) (pv 2) pe_int (nomark _)) (pss_one (ps_ret (pe_lst (pa_cons (pe_op oMulS pe_str (pe_callB cLen (by rfl) n_len (by decide +kernel) (pa_cons (pv 1) pa_nil))) (pa_cons pe_int pa_nil))))) pss_nil)
    (pss_cons (ps_set (i := 3) sc__law_bad_bits.nd rfl (by first | exact Or.inl rfl | exact Or.inr rfl) (pe_tup (pa_cons pe_int (pa_cons (pe_op oSub pe_int pe_int) (pa_cons pe_bl (pa_cons pe_bl (pa_cons pe_non (pa_cons pe_str (pa_cons (pe_tup (pa_cons pe_int pa_nil)) (pa_cons pe_int pa_nil))))))))))
    (pss_cons (ps_set (i := 4) sc__law_bad_bits.nd rfl (by first | exact Or.inl rfl | exact Or.inr rfl) (dCall (E := E) cl__law_take hr (by decide) (by rfl) (L2N.passes_call (L2N.takes_of rfl rfl rfl rfl) fun _ _ _ _ h => h) (pa_cons (pv 0) (pa_cons (pe_callB cLen (by rfl) n_len (by decide +kernel) (pa_cons (pv 1) pa_nil)) pa_nil))))
    (pss_cons (ps_set (i := 5) sc__law_bad_bits.nd rfl (by first | exact Or.inl rfl | exact Or.inr rfl) (pe_callTy cList (by rfl) n_list (by decide +kernel) (pa_cons (pv 1) pa_nil)))
    (pss_cons (ps_asg (pe_ix ix_seq (pv 3) (dCall (E := E) cl__law_take hr (by decide) (by rfl) (L2N.passes_call (L2N.takes_of rfl rfl rfl rfl) fun _ _ _ _ h => h) (pa_cons (pv 0) (pa_cons pe_int pa_nil))) (fun _ _ => rfl)) (pg_sub (pv 5) (pv 4) set_list))
    (pss_cons (ps_set (i := 6) sc__law_bad_bits.nd rfl (by first | exact Or.inl rfl | exact Or.inr rfl) (pe_op oAdd (pv 4) (dCall (E := E) cl__law_take hr (by decide) (by rfl) (L2N.passes_call (L2N.takes_of rfl rfl rfl rfl) fun _ _ _ _ h => h) (pa_cons (pv 0) (pa_cons (pe_op oSub (pe_callB cLen (by rfl) n_len (by decide +kernel) (pa_cons (pv 1) pa_nil)) (pv 4)) pa_nil)))))
    (pss_cons (ps_if (pt_cmpR oGt (pv 6) (pv 4) (nomark _)) (pss_one (ps_asg (pe_ix ix_seq (pv 3) (dCall (E := E) cl__law_take hr (by decide) (by rfl) (L2N.passes_call (L2N.takes_of rfl rfl rfl rfl) fun _ _ _ _ h => h) (pa_cons (pv 0) (pa_cons pe_int pa_nil))) (fun _ _ => rfl)) (pg_sub (pv 5) (pv 6) set_list))) pss_nil)
    (pss_cons (ps_if (pt_cmpR (oEq hr.units) (dCall (E := E) cl__law_take hr (by decide) (by rfl) (L2N.passes_call (L2N.takes_of rfl rfl rfl rfl) fun _ _ _ _ h => h) (pa_cons (pv 0) (pa_cons pe_int pa_nil))) pe_int (nomark _)) (pss_one (ps_ret (pe_lst (pa_cons (pe_tupleOf (by rfl) n_tuple (pv 5)) (pa_cons (pv 4) pa_nil))))) pss_nil)
    (pss_one (ps_ret (pe_lst (pa_cons (pv 5) (pa_cons (pv 4) pa_nil))))))))))))))))))
theorem der__law_refusal {P : Program} {w : World} {K : PySem.W.Frag} {mg : Str → Option Value} {base : Heap} {f : Addr} {C_BadCalls : Addr} {C_BadDeals : Addr} {C_BadGroup : Addr} {C_BadLine : Addr} {C_BadNumber : Addr} {C_BadRow : Addr} {C_BadSteps : Addr} {C_BadTable : Addr} {C_BadText : Addr} {C_BadWorlds : Addr} {C_JointError : Addr} {C_NotThere : Addr} {C_NothingDone : Addr} {C_TooLarge : Addr} {sp_ways_said : Sp} (cl_ways_said : Cl P w K mg base 6 "ways_said" sp_ways_said) (g_BadCalls : mg "BadCalls" = some (.ref C_BadCalls)) (g_BadDeals : mg "BadDeals" = some (.ref C_BadDeals)) (g_BadGroup : mg "BadGroup" = some (.ref C_BadGroup)) (g_BadLine : mg "BadLine" = some (.ref C_BadLine)) (g_BadNumber : mg "BadNumber" = some (.ref C_BadNumber)) (g_BadRow : mg "BadRow" = some (.ref C_BadRow)) (g_BadSteps : mg "BadSteps" = some (.ref C_BadSteps)) (g_BadTable : mg "BadTable" = some (.ref C_BadTable)) (g_BadText : mg "BadText" = some (.ref C_BadText)) (g_BadWorlds : mg "BadWorlds" = some (.ref C_BadWorlds)) (g_JointError : mg "JointError" = some (.ref C_JointError)) (g_NotThere : mg "NotThere" = some (.ref C_NotThere)) (g_NothingDone : mg "NothingDone" = some (.ref C_NothingDone)) (g_TooLarge : mg "TooLarge" = some (.ref C_TooLarge)) (xf_BadRow : XfC K C_BadRow) (np_place : PySem.W.findIn K (.ref C_BadRow) "place" = some none) (n_ValueError : mg "ValueError" = none) (n_isinstance : mg "isinstance" = none) (n_len : mg "len" = none) (n_range : mg "range" = none) (n_tuple : mg "tuple" = none) (cdv : Value) (A : Around) (outer : List Env) (s : Shared) (H : Hp) (E : XK) (hr : Room 6 (A.deeper (envOfC "_law_refusal" (defScope s__law_refusal) s.heap.objs.size f cdv))) :
    PSs (cxOf (L2N.CX P w) P w K mg base N__law_refusal "_law_refusal" (defScope s__law_refusal) f cdv A outer s H E) (defBody s__law_refusal) (t__law_refusal K w C_BadCalls C_BadDeals C_BadGroup C_BadLine C_BadNumber C_BadRow C_BadSteps C_BadTable C_BadText C_BadWorlds C_JointError C_NotThere C_NothingDone C_TooLarge sp_ways_said E) :=
  (pss_cons (ps_try_cls rfl rfl (L2N.takes_of rfl rfl rfl rfl) (fun W pn xe tk hown =>
    (pss_one (ps_expr (dCallS cl_ways_said hr (by decide) (by rfl) tk (pa_cons (pv 0) (pa_cons (pv 1) (pa_cons (pv 2) (pa_cons (pv 3) (pa_cons (pv 4) pa_nil)))))))))
    (HdsN.consAs (i := 5) sc__law_refusal.nd rfl rfl ⟨(by rfl), (by decide), .inl g_JointError⟩ (fun a oe cls d pn hz hf =>
    (pss_cons (ps_set (i := 6) sc__law_refusal.nd rfl (by first | exact Or.inl rfl | exact Or.inr rfl) (pe_lst (pa_cons (pe_callB (call_isY hz hf) (by rfl) n_isinstance (by decide +kernel) (pa_cons (pv 5) (pa_cons (pe_glob (by rfl) g_BadNumber rfl) pa_nil))) (pa_cons (pe_callB (call_isY hz hf) (by rfl) n_isinstance (by decide +kernel) (pa_cons (pv 5) (pa_cons (pe_glob (by rfl) g_BadCalls rfl) pa_nil))) (pa_cons (pe_callB (call_isY hz hf) (by rfl) n_isinstance (by decide +kernel) (pa_cons (pv 5) (pa_cons (pe_glob (by rfl) g_BadGroup rfl) pa_nil))) (pa_cons (pe_callB (call_isY hz hf) (by rfl) n_isinstance (by decide +kernel) (pa_cons (pv 5) (pa_cons (pe_glob (by rfl) g_BadRow rfl) pa_nil))) pa_nil))))))
    (pss_cons (ps_set (i := 6) sc__law_refusal.nd rfl (by first | exact Or.inl rfl | exact Or.inr rfl) (pe_op oAdd (pv 6) (pe_lst (pa_cons (pe_callB (call_isY hz hf) (by rfl) n_isinstance (by decide +kernel) (pa_cons (pv 5) (pa_cons (pe_glob (by rfl) g_BadDeals rfl) pa_nil))) (pa_cons (pe_callB (call_isY hz hf) (by rfl) n_isinstance (by decide +kernel) (pa_cons (pv 5) (pa_cons (pe_glob (by rfl) g_BadLine rfl) pa_nil))) (pa_cons (pe_callB (call_isY hz hf) (by rfl) n_isinstance (by decide +kernel) (pa_cons (pv 5) (pa_cons (pe_glob (by rfl) g_BadSteps rfl) pa_nil))) pa_nil))))))
    (pss_cons (ps_set (i := 6) sc__law_refusal.nd rfl (by first | exact Or.inl rfl | exact Or.inr rfl) (pe_op oAdd (pv 6) (pe_lst (pa_cons (pe_callB (call_isY hz hf) (by rfl) n_isinstance (by decide +kernel) (pa_cons (pv 5) (pa_cons (pe_glob (by rfl) g_BadTable rfl) pa_nil))) (pa_cons (pe_callB (call_isY hz hf) (by rfl) n_isinstance (by decide +kernel) (pa_cons (pv 5) (pa_cons (pe_glob (by rfl) g_BadText rfl) pa_nil))) (pa_cons (pe_callB (call_isY hz hf) (by rfl) n_isinstance (by decide +kernel) (pa_cons (pv 5) (pa_cons (pe_glob (by rfl) g_BadWorlds rfl) pa_nil))) pa_nil))))))
    (pss_cons (ps_set (i := 6) sc__law_refusal.nd rfl (by first | exact Or.inl rfl | exact Or.inr rfl) (pe_op oAdd (pv 6) (pe_lst (pa_cons (pe_callB (call_isY hz hf) (by rfl) n_isinstance (by decide +kernel) (pa_cons (pv 5) (pa_cons (pe_glob (by rfl) g_NothingDone rfl) pa_nil))) pa_nil))))
    (pss_cons (ps_set (i := 6) sc__law_refusal.nd rfl (by first | exact Or.inl rfl | exact Or.inr rfl) (pe_op oAdd (pv 6) (pe_lst (pa_cons (pe_callB (call_isY hz hf) (by rfl) n_isinstance (by decide +kernel) (pa_cons (pv 5) (pa_cons (pe_glob (by rfl) g_NotThere rfl) pa_nil))) (pa_cons (pe_callB (call_isY hz hf) (by rfl) n_isinstance (by decide +kernel) (pa_cons (pv 5) (pa_cons (pe_glob (by rfl) g_TooLarge rfl) pa_nil))) (pa_cons (pe_not (pe_callB (call_isY hz hf) (by rfl) n_isinstance (by decide +kernel) (pa_cons (pv 5) (pa_cons (pe_bltn (v := .ty "ValueError") (by rfl) n_ValueError (by decide +kernel) rfl) pa_nil)))) pa_nil))))))
    (pss_cons (ps_set (i := 7) sc__law_refusal.nd rfl (by first | exact Or.inl rfl | exact Or.inr rfl) pe_int)
    (pss_cons (ps_if (pt_val (pe_callB (call_isY hz hf) (by rfl) n_isinstance (by decide +kernel) (pa_cons (pv 5) (pa_cons (pe_glob (by rfl) g_BadRow rfl) pa_nil)))) (pss_one (ps_set (i := 7) sc__law_refusal.nd rfl (by first | exact Or.inl rfl | exact Or.inr rfl) (pe_xf xf_BadRow np_place hz.zc hf (pv 5)))) pss_nil)
    (pss_one (ps_ret (pe_lst (pa_cons (pe_tupleOf (by rfl) n_tuple (pe_lcK (own := [("k", 8)]) (hot_of hz hf) sc__law_refusal.nd (pi_range1K (by rfl) n_range (pa_cons (pe_callB cLen (by rfl) n_len (by decide +kernel) (pa_cons (pv 6) pa_nil)) pa_nil)) (blkOk_by (own := [("k", 8)]) (N := N__law_refusal) (sc := defScope s__law_refusal) (by decide +kernel)) (fun _ _ _ _ _ => (pg_name (i := 8) sc__law_refusal.nd rfl (by first | exact Or.inl rfl | exact Or.inr rfl))) (fun _ _ _ _ _ => (pts_one (pt_val (pe_ix ix_seq (pv 6) (pv 8) (fun _ _ => rfl))))) (fun _ _ _ _ _ => (pv 8)))) (pa_cons (pv 7) pa_nil))))))))))))) HdsN.nil))
    (pss_one (ps_ret (pe_lst (pa_cons (pe_tup pa_nil) (pa_cons pe_int pa_nil))))))
theorem der__law_refused {P : Program} {w : World} {K : PySem.W.Frag} {mg : Str → Option Value} {base : Heap} {f : Addr} {sp__law_bad_bits : Sp} {sp__law_bad_group : Sp} {sp__law_bad_number : Sp} {sp__law_bad_ties : Sp} {sp__law_refusal : Sp} {sp__law_same : Sp} (cl__law_bad_bits : Cl P w K mg base 2 "_law_bad_bits" sp__law_bad_bits) (cl__law_bad_group : Cl P w K mg base 2 "_law_bad_group" sp__law_bad_group) (cl__law_bad_number : Cl P w K mg base 2 "_law_bad_number" sp__law_bad_number) (cl__law_bad_ties : Cl P w K mg base 3 "_law_bad_ties" sp__law_bad_ties) (cl__law_refusal : Cl P w K mg base 7 "_law_refusal" sp__law_refusal) (cl__law_same : Cl P w K mg base 9 "_law_same" sp__law_same) (n_tuple : mg "tuple" = none) (cdv : Value) (A : Around) (outer : List Env) (s : Shared) (H : Hp) (E : XK) (hr : Room 9 (A.deeper (envOfC "_law_refused" (defScope s__law_refused) s.heap.objs.size f cdv))) :
    PSs (cxOf (L2N.CX P w) P w K mg base N__law_refused "_law_refused" (defScope s__law_refused) f cdv A outer s H E) (defBody s__law_refused) (t__law_refused K w sp__law_bad_bits sp__law_bad_group sp__law_bad_number sp__law_bad_ties sp__law_refusal sp__law_same E) :=
  (pss_cons (ps_set (i := 6) sc__law_refused.nd rfl (by first | exact Or.inl rfl | exact Or.inr rfl) (dCall (E := E) cl__law_bad_number hr (by decide) (by rfl) (L2N.passes_call (L2N.takes_of rfl rfl rfl rfl) fun _ _ _ _ h => h) (pa_cons (pv 0) pa_nil)))
    (pss_cons (ps_set (i := 7) sc__law_refused.nd rfl (by first | exact Or.inl rfl | exact Or.inr rfl) (dCall (E := E) cl__law_bad_ties hr (by decide) (by rfl) (L2N.passes_call (L2N.takes_of rfl rfl rfl rfl) fun _ _ _ _ h => h) (pa_cons (pv 0) (pa_cons (pv 1) (pa_cons (pv 2) pa_nil)))))
    (pss_cons (ps_set (i := 8) sc__law_refused.nd rfl (by first | exact Or.inl rfl | exact Or.inr rfl) (dCall (E := E) cl__law_bad_group hr (by decide) (by rfl) (L2N.passes_call (L2N.takes_of rfl rfl rfl rfl) fun _ _ _ _ h => h) (pa_cons (pv 0) (pa_cons (pv 1) (pa_cons (pv 3) pa_nil)))))
    (pss_cons (ps_set (i := 9) sc__law_refused.nd rfl (by first | exact Or.inl rfl | exact Or.inr rfl) (dCall (E := E) cl__law_bad_bits hr (by decide) (by rfl) (L2N.passes_call (L2N.takes_of rfl rfl rfl rfl) fun _ _ _ _ h => h) (pa_cons (pv 0) (pa_cons (pv 4) pa_nil))))
    (pss_cons (ps_set (i := 10) sc__law_refused.nd rfl (by first | exact Or.inl rfl | exact Or.inr rfl) (dCall (E := E) cl__law_bad_bits hr (by decide) (by rfl) (L2N.passes_call (L2N.takes_of rfl rfl rfl rfl) fun _ _ _ _ h => h) (pa_cons (pv 0) (pa_cons (pv 5) pa_nil))))
    (pss_cons (ps_set (i := 11) sc__law_refused.nd rfl (by first | exact Or.inl rfl | exact Or.inr rfl) (pe_lst (pa_cons (dCall (E := E) cl__law_refusal hr (by decide) (by rfl) (L2N.passes_call (L2N.takes_of rfl rfl rfl rfl) fun _ _ _ _ h => h) (pa_cons (pv 6) (pa_cons (pv 2) (pa_cons (pv 3) (pa_cons (pv 4) (pa_cons (pv 5) pa_nil)))))) (pa_cons (dCall (E := E) cl__law_refusal hr (by decide) (by rfl) (L2N.passes_call (L2N.takes_of rfl rfl rfl rfl) fun _ _ _ _ h => h) (pa_cons (pv 6) (pa_cons (pv 7) (pa_cons (pv 3) (pa_cons (pv 4) (pa_cons (pv 5) pa_nil)))))) pa_nil))))
    (pss_cons (ps_for (passes_of rfl) rfl (pi_seq (pv 11)) (pg_name (i := 12) sc__law_refused.nd rfl (by first | exact Or.inl rfl | exact Or.inr rfl)) (pss_one (ps_if (pt_not (pt_val (dCall (E := E) cl__law_same hr (by decide) (by rfl) (L2N.passes_call (L2N.takes_of rfl rfl rfl rfl) fun _ _ _ _ h => h) (pa_cons (pe_tupleOf (by rfl) n_tuple (pv 12)) (pa_cons (pe_tup (pa_cons (pe_tup (pa_cons pe_int pa_nil)) (pa_cons pe_int pa_nil))) pa_nil))))) (pss_one (ps_ret pe_bl)) pss_nil)))
    (pss_cons (ps_set (i := 11) sc__law_refused.nd rfl (by first | exact Or.inl rfl | exact Or.inr rfl) (pe_lst (pa_cons (dCall (E := E) cl__law_refusal hr (by decide) (by rfl) (L2N.passes_call (L2N.takes_of rfl rfl rfl rfl) fun _ _ _ _ h => h) (pa_cons (pv 1) (pa_cons (pv 7) (pa_cons (pv 3) (pa_cons (pv 4) (pa_cons (pv 5) pa_nil)))))) (pa_cons (dCall (E := E) cl__law_refusal hr (by decide) (by rfl) (L2N.passes_call (L2N.takes_of rfl rfl rfl rfl) fun _ _ _ _ h => h) (pa_cons (pv 1) (pa_cons (pv 7) (pa_cons (pv 8) (pa_cons (pv 4) (pa_cons (pv 5) pa_nil)))))) pa_nil))))
    (pss_cons (ps_for (passes_of rfl) rfl (pi_seq (pv 11)) (pg_name (i := 12) sc__law_refused.nd rfl (by first | exact Or.inl rfl | exact Or.inr rfl)) (pss_one (ps_if (pt_not (pt_val (dCall (E := E) cl__law_same hr (by decide) (by rfl) (L2N.passes_call (L2N.takes_of rfl rfl rfl rfl) fun _ _ _ _ h => h) (pa_cons (pe_tupleOf (by rfl) n_tuple (pv 12)) (pa_cons (pe_tup (pa_cons (pe_tup (pa_cons pe_int pa_nil)) (pa_cons pe_int pa_nil))) pa_nil))))) (pss_one (ps_ret pe_bl)) pss_nil)))
    (pss_cons (ps_set (i := 11) sc__law_refused.nd rfl (by first | exact Or.inl rfl | exact Or.inr rfl) (pe_lst (pa_cons (dCall (E := E) cl__law_refusal hr (by decide) (by rfl) (L2N.passes_call (L2N.takes_of rfl rfl rfl rfl) fun _ _ _ _ h => h) (pa_cons (pv 1) (pa_cons (pv 2) (pa_cons (pv 8) (pa_cons (pv 4) (pa_cons (pv 5) pa_nil)))))) (pa_cons (dCall (E := E) cl__law_refusal hr (by decide) (by rfl) (L2N.passes_call (L2N.takes_of rfl rfl rfl rfl) fun _ _ _ _ h => h) (pa_cons (pv 1) (pa_cons (pv 2) (pa_cons (pv 8) (pa_cons (pe_ix ix_seq (pv 9) pe_int (fun _ _ => rfl)) (pa_cons (pv 5) pa_nil)))))) pa_nil))))
    (pss_cons (ps_for (passes_of rfl) rfl (pi_seq (pv 11)) (pg_name (i := 12) sc__law_refused.nd rfl (by first | exact Or.inl rfl | exact Or.inr rfl)) (pss_one (ps_if (pt_not (pt_val (dCall (E := E) cl__law_same hr (by decide) (by rfl) (L2N.passes_call (L2N.takes_of rfl rfl rfl rfl) fun _ _ _ _ h => h) (pa_cons (pe_tupleOf (by rfl) n_tuple (pv 12)) (pa_cons (pe_tup (pa_cons (pe_tup (pa_cons pe_int pa_nil)) (pa_cons pe_int pa_nil))) pa_nil))))) (pss_one (ps_ret pe_bl)) pss_nil)))
    (pss_cons (ps_set (i := 11) sc__law_refused.nd rfl (by first | exact Or.inl rfl | exact Or.inr rfl) (pe_lst (pa_cons (dCall (E := E) cl__law_refusal hr (by decide) (by rfl) (L2N.passes_call (L2N.takes_of rfl rfl rfl rfl) fun _ _ _ _ h => h) (pa_cons (pv 1) (pa_cons (pv 2) (pa_cons (pv 3) (pa_cons (pe_ix ix_seq (pv 9) pe_int (fun _ _ => rfl)) (pa_cons (pv 5) pa_nil)))))) (pa_cons (dCall (E := E) cl__law_refusal hr (by decide) (by rfl) (L2N.passes_call (L2N.takes_of rfl rfl rfl rfl) fun _ _ _ _ h => h) (pa_cons (pv 1) (pa_cons (pv 2) (pa_cons (pv 3) (pa_cons (pe_ix ix_seq (pv 9) pe_int (fun _ _ => rfl)) (pa_cons (pe_ix ix_seq (pv 10) pe_int (fun _ _ => rfl)) pa_nil)))))) pa_nil))))
    (pss_cons (ps_for (passes_of rfl) rfl (pi_seq (pv 11)) (pg_name (i := 12) sc__law_refused.nd rfl (by first | exact Or.inl rfl | exact Or.inr rfl)) (pss_one (ps_if (pt_not (pt_val (dCall (E := E) cl__law_same hr (by decide) (by rfl) (L2N.passes_call (L2N.takes_of rfl rfl rfl rfl) fun _ _ _ _ h => h) (pa_cons (pe_tupleOf (by rfl) n_tuple (pv 12)) (pa_cons (pe_tup (pa_cons (pe_tup (pa_cons pe_int pa_nil)) (pa_cons (pe_ix ix_seq (pv 9) pe_int (fun _ _ => rfl)) pa_nil))) pa_nil))))) (pss_one (ps_ret pe_bl)) pss_nil)))
    (pss_cons (ps_if (pt_not (pt_val (dCall (E := E) cl__law_same hr (by decide) (by rfl) (L2N.passes_call (L2N.takes_of rfl rfl rfl rfl) fun _ _ _ _ h => h) (pa_cons (pe_tupleOf (by rfl) n_tuple (dCall (E := E) cl__law_refusal hr (by decide) (by rfl) (L2N.passes_call (L2N.takes_of rfl rfl rfl rfl) fun _ _ _ _ h => h) (pa_cons (pv 1) (pa_cons (pv 2) (pa_cons (pv 3) (pa_cons (pv 4) (pa_cons (pe_ix ix_seq (pv 10) pe_int (fun _ _ => rfl)) pa_nil))))))) (pa_cons (pe_tup (pa_cons (pe_tup (pa_cons pe_int pa_nil)) (pa_cons (pe_ix ix_seq (pv 10) pe_int (fun _ _ => rfl)) pa_nil))) pa_nil))))) (pss_one (ps_ret pe_bl)) pss_nil)
    (pss_one (ps_ret (dCall (E := E) cl__law_same hr (by decide) (by rfl) (L2N.passes_call (L2N.takes_of rfl rfl rfl rfl) fun _ _ _ _ h => h) (pa_cons (pe_tupleOf (by rfl) n_tuple (dCall (E := E) cl__law_refusal hr (by decide) (by rfl) (L2N.passes_call (L2N.takes_of rfl rfl rfl rfl) fun _ _ _ _ h => h) (pa_cons (pv 1) (pa_cons (pv 2) (pa_cons (pv 3) (pa_cons (pv 4) (pa_cons (pv 5) pa_nil))))))) (pa_cons (pe_tup (pa_cons (pe_tup pa_nil) (pa_cons pe_int pa_nil))) pa_nil)))))))))))))))))))
theorem der_law {P : Program} {w : World} {K : PySem.W.Frag} {mg : Str → Option Value} {base : Heap} {f : Addr} {sp__law_all_words_fit : Sp} {sp__law_group : Sp} {sp__law_pool : Sp} {sp__law_refused : Sp} {sp__law_some_words_fit : Sp} {sp__law_take : Sp} {sp__law_ties : Sp} {sp__law_ways : Sp} (cl__law_all_words_fit : Cl P w K mg base 11 "_law_all_words_fit" sp__law_all_words_fit) (cl__law_group : Cl P w K mg base 2 "_law_group" sp__law_group) (cl__law_pool : Cl P w K mg base 1 "_law_pool" sp__law_pool) (cl__law_refused : Cl P w K mg base 10 "_law_refused" sp__law_refused) (cl__law_some_words_fit : Cl P w K mg base 11 "_law_some_words_fit" sp__law_some_words_fit) (cl__law_take : Cl P w K mg base 1 "_law_take" sp__law_take) (cl__law_ties : Cl P w K mg base 2 "_law_ties" sp__law_ties) (cl__law_ways : Cl P w K mg base 1 "_law_ways" sp__law_ways) (n_len : mg "len" = none) (n_range : mg "range" = none) (cdv : Value) (A : Around) (outer : List Env) (s : Shared) (H : Hp) (E : XK) (hr : Room 11 (A.deeper (envOfC "law" (defScope s_law) s.heap.objs.size f cdv))) :
    PSs (cxOf (L2N.CX P w) P w K mg base N_law "law" (defScope s_law) f cdv A outer s H E) (defBody s_law) (t_law K w sp__law_all_words_fit sp__law_group sp__law_pool sp__law_refused sp__law_some_words_fit sp__law_take sp__law_ties sp__law_ways E) :=
  (pss_cons (ps_set (i := 1) sc_law.nd rfl (by first | exact Or.inl rfl | exact Or.inr rfl) (dCall (E := E) cl__law_pool hr (by decide) (by rfl) (L2N.passes_call (L2N.takes_of rfl rfl rfl rfl) fun _ _ _ _ h => h) (pa_cons (pv 0) pa_nil)))
    (pss_cons (ps_set (i := 2) sc_law.nd rfl (by first | exact Or.inl rfl | exact Or.inr rfl) (pe_op oAdd pe_int (dCall (E := E) cl__law_take hr (by decide) (by rfl) (L2N.passes_call (L2N.takes_of rfl rfl rfl rfl) fun _ _ _ _ h => h) (pa_cons (pv 1) (pa_cons pe_int pa_nil)))))
    (pss_cons (ps_set (i := 3) sc_law.nd rfl (by first | exact Or.inl rfl | exact Or.inr rfl) (dCall (E := E) cl__law_ties hr (by decide) (by rfl) (L2N.passes_call (L2N.takes_of rfl rfl rfl rfl) fun _ _ _ _ h => h) (pa_cons (pv 1) (pa_cons (pv 2) pa_nil))))
    (pss_cons (ps_set (i := 4) sc_law.nd rfl (by first | exact Or.inl rfl | exact Or.inr rfl) (dCall (E := E) cl__law_group hr (by decide) (by rfl) (L2N.passes_call (L2N.takes_of rfl rfl rfl rfl) fun _ _ _ _ h => h) (pa_cons (pv 1) (pa_cons (pv 2) pa_nil))))
    (pss_cons (ps_setLc (i := 5) (own := [("k", 9)]) rfl sc_law.nd rfl rfl (sw_true rfl rfl rfl (by decide +kernel)) (pi_range1 (by rfl) n_range (pa_cons (pv 2) pa_nil)) (blkOk_by (own := [("k", 9)]) (N := N_law) (sc := defScope s_law) (by decide +kernel)) (fun _ _ _ _ _ => (pg_name (i := 9) sc_law.nd rfl (by first | exact Or.inl rfl | exact Or.inr rfl))) (fun _ _ _ _ _ => pts_nil) (fun _ _ _ _ _ => (dCall (E := E0) cl__law_take hr (by decide) (by rfl) passN (pa_cons (pv 1) (pa_cons pe_int pa_nil)))))
    (pss_cons (ps_setLc (i := 6) (own := [("k", 9)]) rfl sc_law.nd rfl rfl (sw_true rfl rfl rfl (by decide +kernel)) (pi_range1 (by rfl) n_range (pa_cons (pv 2) pa_nil)) (blkOk_by (own := [("k", 9)]) (N := N_law) (sc := defScope s_law) (by decide +kernel)) (fun _ _ _ _ _ => (pg_name (i := 9) sc_law.nd rfl (by first | exact Or.inl rfl | exact Or.inr rfl))) (fun _ _ _ _ _ => pts_nil) (fun _ _ _ _ _ => (dCall (E := E0) cl__law_take hr (by decide) (by rfl) passN (pa_cons (pv 1) (pa_cons pe_int pa_nil)))))
    (pss_cons (ps_set (i := 7) sc_law.nd rfl (by first | exact Or.inl rfl | exact Or.inr rfl) (dCall (E := E) cl__law_ways hr (by decide) (by rfl) (L2N.passes_call (L2N.takes_of rfl rfl rfl rfl) fun _ _ _ _ h => h) (pa_cons (pv 3) (pa_cons (pv 4) pa_nil))))
    (pss_cons (ps_setLc (i := 8) (own := [("pair", 10)]) rfl sc_law.nd rfl rfl (sw_true rfl rfl rfl (by decide +kernel)) (pi_seq (pv 3)) (blkOk_by (own := [("pair", 10)]) (N := N_law) (sc := defScope s_law) (by decide +kernel)) (fun _ _ _ _ _ => (pg_name (i := 10) sc_law.nd rfl (by first | exact Or.inl rfl | exact Or.inr rfl))) (fun _ _ _ _ _ => (pts_one (PW.pt (pw_and (pt_cmpR (oNi (hu1 hr)) (pe_ix ix_seq (pv 10) pe_int (fun _ _ => rfl)) (pv 4) (by rfl)) (pw_and1 (pt_cmpR (oNi (hu1 hr)) (pe_ix ix_seq (pv 10) pe_int (fun _ _ => rfl)) (pv 4) (by rfl))))))) (fun _ _ _ _ _ => (pv 10)))
    (pss_cons (ps_if (pt_cmpR oLe (pe_op oAdd (pv 2) (pe_callB cLen (by rfl) n_len (by decide +kernel) (pa_cons (pv 8) pa_nil))) pe_int (nomark _)) (pss_one (ps_if (pt_not (pt_val (dCall (E := E) cl__law_all_words_fit hr (by decide) (by rfl) (L2N.passes_call (L2N.takes_of rfl rfl rfl rfl) fun _ _ _ _ h => h) (pa_cons (pv 1) (pa_cons (pv 2) (pa_cons (pv 3) (pa_cons (pv 4) (pa_cons (pv 5) (pa_cons (pv 7) pa_nil))))))))) (pss_one (ps_ret pe_bl)) pss_nil)) (pss_one (ps_if (pt_not (pt_val (dCall (E := E) cl__law_some_words_fit hr (by decide) (by rfl) (L2N.passes_call (L2N.takes_of rfl rfl rfl rfl) fun _ _ _ _ h => h) (pa_cons (pv 1) (pa_cons (pv 2) (pa_cons (pv 3) (pa_cons (pv 4) (pa_cons (pv 5) (pa_cons (pv 7) pa_nil))))))))) (pss_one (ps_ret pe_bl)) pss_nil)))
    (pss_one (ps_ret (dCall (E := E) cl__law_refused hr (by decide) (by rfl) (L2N.passes_call (L2N.takes_of rfl rfl rfl rfl) fun _ _ _ _ h => h) (pa_cons (pv 1) (pa_cons (pv 2) (pa_cons (pv 3) (pa_cons (pv 4) (pa_cons (pv 5) (pa_cons (pv 6) pa_nil))))))))))))))))))
abbrev dd_is_integer : He.DefD := ⟨("is_integer", none), "is_integer", "is_integer", defArgs s_is_integer, defBody s_is_integer, defScope s_is_integer, [], []⟩
abbrev dd_is_from_to : He.DefD := ⟨("is_from_to", none), "is_from_to", "is_from_to", defArgs s_is_from_to, defBody s_is_from_to, defScope s_is_from_to, [], []⟩
abbrev dd_check_number : He.DefD := ⟨("check_number", none), "check_number", "check_number", defArgs s_check_number, defBody s_check_number, defScope s_check_number, [], []⟩
abbrev dd_is_lot : He.DefD := ⟨("is_lot", none), "is_lot", "is_lot", defArgs s_is_lot, defBody s_is_lot, defScope s_is_lot, [], []⟩
abbrev dd_check_group : He.DefD := ⟨("check_group", none), "check_group", "check_group", defArgs s_check_group, defBody s_check_group, defScope s_check_group, [], []⟩
abbrev dd_check_numbers : He.DefD := ⟨("check_numbers", none), "check_numbers", "check_numbers", defArgs s_check_numbers, defBody s_check_numbers, defScope s_check_numbers, [], []⟩
abbrev dd_are_pairs : He.DefD := ⟨("are_pairs", none), "are_pairs", "are_pairs", defArgs s_are_pairs, defBody s_are_pairs, defScope s_are_pairs, [], []⟩
abbrev dd_check_edges : He.DefD := ⟨("check_edges", none), "check_edges", "check_edges", defArgs s_check_edges, defBody s_check_edges, defScope s_check_edges, [], []⟩
abbrev dd_check_bits : He.DefD := ⟨("check_bits", none), "check_bits", "check_bits", defArgs s_check_bits, defBody s_check_bits, defScope s_check_bits, [], []⟩
abbrev dd_check_round : He.DefD := ⟨("check_round", none), "check_round", "check_round", defArgs s_check_round, defBody s_check_round, defScope s_check_round, [], []⟩
abbrev dd_hidden_edges : He.DefD := ⟨("hidden_edges", none), "hidden_edges", "hidden_edges", defArgs s_hidden_edges, defBody s_hidden_edges, defScope s_hidden_edges, [], []⟩
abbrev dd_lots_left : He.DefD := ⟨("lots_left", none), "lots_left", "lots_left", defArgs s_lots_left, defBody s_lots_left, defScope s_lots_left, [], []⟩
abbrev dd_sums_of : He.DefD := ⟨("sums_of", none), "sums_of", "sums_of", defArgs s_sums_of, defBody s_sums_of, defScope s_sums_of, [], []⟩
abbrev dd_ways_said : He.DefD := ⟨("ways_said", none), "ways_said", "ways_said", defArgs s_ways_said, defBody s_ways_said, defScope s_ways_said, [], []⟩
abbrev dd__law_pool : He.DefD := ⟨("_law_pool", none), "_law_pool", "_law_pool", defArgs s__law_pool, defBody s__law_pool, defScope s__law_pool, [], []⟩
abbrev dd__law_take : He.DefD := ⟨("_law_take", none), "_law_take", "_law_take", defArgs s__law_take, defBody s__law_take, defScope s__law_take, [], []⟩
abbrev dd__law_same : He.DefD := ⟨("_law_same", none), "_law_same", "_law_same", defArgs s__law_same, defBody s__law_same, defScope s__law_same, [], []⟩
abbrev dd__law_ties : He.DefD := ⟨("_law_ties", none), "_law_ties", "_law_ties", defArgs s__law_ties, defBody s__law_ties, defScope s__law_ties, [], []⟩
abbrev dd__law_group : He.DefD := ⟨("_law_group", none), "_law_group", "_law_group", defArgs s__law_group, defBody s__law_group, defScope s__law_group, [], []⟩
abbrev dd__law_ways : He.DefD := ⟨("_law_ways", none), "_law_ways", "_law_ways", defArgs s__law_ways, defBody s__law_ways, defScope s__law_ways, [], []⟩
abbrev dd__law_mask : He.DefD := ⟨("_law_mask", none), "_law_mask", "_law_mask", defArgs s__law_mask, defBody s__law_mask, defScope s__law_mask, [], []⟩
abbrev dd__law_bits : He.DefD := ⟨("_law_bits", none), "_law_bits", "_law_bits", defArgs s__law_bits, defBody s__law_bits, defScope s__law_bits, [], []⟩
abbrev dd__law_way_fits : He.DefD := ⟨("_law_way_fits", none), "_law_way_fits", "_law_way_fits", defArgs s__law_way_fits, defBody s__law_way_fits, defScope s__law_way_fits, [], []⟩
abbrev dd__law_all_words_fit : He.DefD := ⟨("_law_all_words_fit", none), "_law_all_words_fit", "_law_all_words_fit", defArgs s__law_all_words_fit, defBody s__law_all_words_fit, defScope s__law_all_words_fit, [], []⟩
abbrev dd__law_some_words_fit : He.DefD := ⟨("_law_some_words_fit", none), "_law_some_words_fit", "_law_some_words_fit", defArgs s__law_some_words_fit, defBody s__law_some_words_fit, defScope s__law_some_words_fit, [], []⟩
abbrev dd__law_bad_number : He.DefD := ⟨("_law_bad_number", none), "_law_bad_number", "_law_bad_number", defArgs s__law_bad_number, defBody s__law_bad_number, defScope s__law_bad_number, [], []⟩
abbrev dd__law_bad_pair : He.DefD := ⟨("_law_bad_pair", none), "_law_bad_pair", "_law_bad_pair", defArgs s__law_bad_pair, defBody s__law_bad_pair, defScope s__law_bad_pair, [], []⟩
abbrev dd__law_bad_ties : He.DefD := ⟨("_law_bad_ties", none), "_law_bad_ties", "_law_bad_ties", defArgs s__law_bad_ties, defBody s__law_bad_ties, defScope s__law_bad_ties, [], []⟩
abbrev dd__law_bad_group : He.DefD := ⟨("_law_bad_group", none), "_law_bad_group", "_law_bad_group", defArgs s__law_bad_group, defBody s__law_bad_group, defScope s__law_bad_group, [], []⟩
abbrev dd__law_bad_bits : He.DefD := ⟨("_law_bad_bits", none), "_law_bad_bits", "_law_bad_bits", defArgs s__law_bad_bits, defBody s__law_bad_bits, defScope s__law_bad_bits, [], []⟩
abbrev dd__law_refusal : He.DefD := ⟨("_law_refusal", none), "_law_refusal", "_law_refusal", defArgs s__law_refusal, defBody s__law_refusal, defScope s__law_refusal, [], []⟩
abbrev dd__law_refused : He.DefD := ⟨("_law_refused", none), "_law_refused", "_law_refused", defArgs s__law_refused, defBody s__law_refused, defScope s__law_refused, [], []⟩
abbrev dd_law : He.DefD := ⟨("law", none), "law", "law", defArgs s_law, defBody s_law, defScope s_law, [], []⟩
def fns : List He.DefD := [dd_is_integer, dd_is_from_to, dd_check_number, dd_is_lot, dd_check_group, dd_check_numbers, dd_are_pairs, dd_check_edges, dd_check_bits, dd_check_round, dd_hidden_edges, dd_lots_left, dd_sums_of, dd_ways_said, dd__law_pool, dd__law_take, dd__law_same, dd__law_ties, dd__law_group, dd__law_ways, dd__law_mask, dd__law_bits, dd__law_way_fits, dd__law_all_words_fit, dd__law_some_words_fit, dd__law_bad_number, dd__law_bad_pair, dd__law_bad_ties, dd__law_bad_group, dd__law_bad_bits, dd__law_refusal, dd__law_refused, dd_law]
def fas : List He.Fa := [.glo "is_integer", .glo "is_from_to", .glo "check_number", .glo "is_lot", .glo "check_group", .glo "check_numbers", .glo "are_pairs", .glo "check_edges", .glo "check_bits", .glo "check_round", .glo "hidden_edges", .glo "lots_left", .glo "sums_of", .glo "ways_said", .glo "_law_pool", .glo "_law_take", .glo "_law_same", .glo "_law_ties", .glo "_law_group", .glo "_law_ways", .glo "_law_mask", .glo "_law_bits", .glo "_law_way_fits", .glo "_law_all_words_fit", .glo "_law_some_words_fit", .glo "_law_bad_number", .glo "_law_bad_pair", .glo "_law_bad_ties", .glo "_law_bad_group", .glo "_law_bad_bits", .glo "_law_refusal", .glo "_law_refused", .glo "law", .glo "BadCalls", .glo "BadDeals", .glo "BadGroup", .glo "BadLine", .glo "BadNumber", .glo "BadRow", .glo "BadSteps", .glo "BadTable", .glo "BadText", .glo "BadWorlds", .glo "JointError", .glo "NotThere", .glo "NothingDone", .glo "TooLarge", .free "ValueError", .free "all", .free "any", .free "bool", .free "enumerate", .free "int", .free "isinstance", .free "len", .free "list", .free "range", .free "sorted", .free "str", .free "sum", .free "super", .free "tuple", .int "MOST_PEOPLE" 6, .exc "BadCalls", .exc "BadGroup", .exc "BadNumber"]
def clsB (s : Stmt) : List Stmt := match s with | .ClassDef _ _ _ b _ _ _ _ _ _ _ => b | _ => []
abbrev s_BadRow : Stmt := (clsB (topS 13)).getD 0 (.Pass ⟨0, 0, 0, 0⟩)
abbrev v_BadRow : FnM := some (("__init__" : Str), ("BadRow.__init__" : Str), defArgs s_BadRow, FuncBody.stmts (defBody s_BadRow), defScope s_BadRow, mainGlobals, builtinsNs)
theorem row_BadRow {P : Program} {w : World} {K : PySem.W.Frag} {mg : Str → Option Value} {base : Heap} {f C : Addr} {fl : Str}
    (e : fnM K f = v_BadRow) (hs : supB K C f fl = true) (ho : oexB K C = true) (hc : supCB K C = true)
    (hf : PySem.W.findIn K (.ref C) "__init__" = some (some (.ref f))) (ht : PySem.W.typeIn K (.ref f) = some (.type "function")) (hno : PySem.W.findIn K (.ref C) "place" = some none) (hm : mg "super" = none)
    (hP : ((P.main.file : Str) == fl) = true) (htop : (P.main.scope.names.lookup ("super" : Str)).isSome = false) : RowF P w K mg base 1 "place" C :=
  rowF_of rfl e hs ho hc hf ht hno hm hP htop (NdefX.nscope_by (by decide +kernel)) (by decide +kernel) (by decide +kernel) (by decide +kernel) (by decide +kernel) (by decide +kernel) ⟨_, rfl, rfl⟩ (by decide) (by decide)
    (fun L cda cc => ⟨_, rfl⟩) (fun L cda cc => rfl) (fun L cda cc => rfl) (fun L cda cc => rfl) (fun kV doc pm an cda cc ct us hl => match us, hl with | [_, _], _ => rfl)
def exs : List (PySem.W.Frag → Bool) := [fun K => xfAll (He.ga K) K xn,
  fun K => supB K (He.ga K "BadRow") (He.fAd K ("BadRow", some "__init__")) PySem.Challenge.pw_everyhands_k96_whole_ways_by_all_coins.main.file,
  fun K => oexB K (He.ga K "BadRow"),
  fun K => supCB K (He.ga K "BadRow"),
  fun K => decide (PySem.W.findIn K (.ref (He.ga K "BadRow")) "__init__" = some (some (.ref (He.fAd K ("BadRow", some "__init__"))))),
  fun K => decide (PySem.W.typeIn K (.ref (He.fAd K ("BadRow", some "__init__"))) = some (.type "function")),
  fun K => decide (PySem.W.findIn K (.ref (He.ga K "BadRow")) "place" = some none),
  fun K => xfB K (He.ga K "BadRow")]
theorem facts {P : Program} {w : World} {K : PySem.W.Frag} {h : Heap} {mg : Str → Option Value} {f : Addr} (X : K.In h) (G : h.Ns mainGlobals mg) (hfa : mg ("law" : Str) = some (.ref f)) (c : He.SaysD fas fns K) (cx : ∀ f ∈ exs, f K = true) (hfn : fnM K (He.fAd K ("BadRow", some "__init__")) = v_BadRow) (hP : ((P.main.file : Str) == PySem.Challenge.pw_everyhands_k96_whole_ways_by_all_coins.main.file) = true) (htop : (P.main.scope.names.lookup ("super" : Str)).isSome = false) :
    ∃ fd : FuncData, (∀ (s : Shared) (v : Value), BindsTo s fd ⟨[v], []⟩ [("script", v)]) ∧ ∀ base : Heap, K.In base → base.Ns mainGlobals mg → FnOk P w K mg base (L2N.CX P w) 12 f fd ["script"] (sp_law K) := by
  have F_is_integer := c.def_ 0 (d := dd_is_integer) rfl
  have g_is_integer := He.glo_ok X G (c.fact 0 (f := .glo "is_integer") rfl)
  have F_is_from_to := c.def_ 1 (d := dd_is_from_to) rfl
  have g_is_from_to := He.glo_ok X G (c.fact 1 (f := .glo "is_from_to") rfl)
  have F_check_number := c.def_ 2 (d := dd_check_number) rfl
  have g_check_number := He.glo_ok X G (c.fact 2 (f := .glo "check_number") rfl)
  have F_is_lot := c.def_ 3 (d := dd_is_lot) rfl
  have g_is_lot := He.glo_ok X G (c.fact 3 (f := .glo "is_lot") rfl)
  have F_check_group := c.def_ 4 (d := dd_check_group) rfl
  have g_check_group := He.glo_ok X G (c.fact 4 (f := .glo "check_group") rfl)
  have F_check_numbers := c.def_ 5 (d := dd_check_numbers) rfl
  have g_check_numbers := He.glo_ok X G (c.fact 5 (f := .glo "check_numbers") rfl)
  have F_are_pairs := c.def_ 6 (d := dd_are_pairs) rfl
  have g_are_pairs := He.glo_ok X G (c.fact 6 (f := .glo "are_pairs") rfl)
  have F_check_edges := c.def_ 7 (d := dd_check_edges) rfl
  have g_check_edges := He.glo_ok X G (c.fact 7 (f := .glo "check_edges") rfl)
  have F_check_bits := c.def_ 8 (d := dd_check_bits) rfl
  have g_check_bits := He.glo_ok X G (c.fact 8 (f := .glo "check_bits") rfl)
  have F_check_round := c.def_ 9 (d := dd_check_round) rfl
  have g_check_round := He.glo_ok X G (c.fact 9 (f := .glo "check_round") rfl)
  have F_hidden_edges := c.def_ 10 (d := dd_hidden_edges) rfl
  have g_hidden_edges := He.glo_ok X G (c.fact 10 (f := .glo "hidden_edges") rfl)
  have F_lots_left := c.def_ 11 (d := dd_lots_left) rfl
  have g_lots_left := He.glo_ok X G (c.fact 11 (f := .glo "lots_left") rfl)
  have F_sums_of := c.def_ 12 (d := dd_sums_of) rfl
  have g_sums_of := He.glo_ok X G (c.fact 12 (f := .glo "sums_of") rfl)
  have F_ways_said := c.def_ 13 (d := dd_ways_said) rfl
  have g_ways_said := He.glo_ok X G (c.fact 13 (f := .glo "ways_said") rfl)
  have F__law_pool := c.def_ 14 (d := dd__law_pool) rfl
  have g__law_pool := He.glo_ok X G (c.fact 14 (f := .glo "_law_pool") rfl)
  have F__law_take := c.def_ 15 (d := dd__law_take) rfl
  have g__law_take := He.glo_ok X G (c.fact 15 (f := .glo "_law_take") rfl)
  have F__law_same := c.def_ 16 (d := dd__law_same) rfl
  have g__law_same := He.glo_ok X G (c.fact 16 (f := .glo "_law_same") rfl)
  have F__law_ties := c.def_ 17 (d := dd__law_ties) rfl
  have g__law_ties := He.glo_ok X G (c.fact 17 (f := .glo "_law_ties") rfl)
  have F__law_group := c.def_ 18 (d := dd__law_group) rfl
  have g__law_group := He.glo_ok X G (c.fact 18 (f := .glo "_law_group") rfl)
  have F__law_ways := c.def_ 19 (d := dd__law_ways) rfl
  have g__law_ways := He.glo_ok X G (c.fact 19 (f := .glo "_law_ways") rfl)
  have F__law_mask := c.def_ 20 (d := dd__law_mask) rfl
  have g__law_mask := He.glo_ok X G (c.fact 20 (f := .glo "_law_mask") rfl)
  have F__law_bits := c.def_ 21 (d := dd__law_bits) rfl
  have g__law_bits := He.glo_ok X G (c.fact 21 (f := .glo "_law_bits") rfl)
  have F__law_way_fits := c.def_ 22 (d := dd__law_way_fits) rfl
  have g__law_way_fits := He.glo_ok X G (c.fact 22 (f := .glo "_law_way_fits") rfl)
  have F__law_all_words_fit := c.def_ 23 (d := dd__law_all_words_fit) rfl
  have g__law_all_words_fit := He.glo_ok X G (c.fact 23 (f := .glo "_law_all_words_fit") rfl)
  have F__law_some_words_fit := c.def_ 24 (d := dd__law_some_words_fit) rfl
  have g__law_some_words_fit := He.glo_ok X G (c.fact 24 (f := .glo "_law_some_words_fit") rfl)
  have F__law_bad_number := c.def_ 25 (d := dd__law_bad_number) rfl
  have g__law_bad_number := He.glo_ok X G (c.fact 25 (f := .glo "_law_bad_number") rfl)
  have F__law_bad_pair := c.def_ 26 (d := dd__law_bad_pair) rfl
  have g__law_bad_pair := He.glo_ok X G (c.fact 26 (f := .glo "_law_bad_pair") rfl)
  have F__law_bad_ties := c.def_ 27 (d := dd__law_bad_ties) rfl
  have g__law_bad_ties := He.glo_ok X G (c.fact 27 (f := .glo "_law_bad_ties") rfl)
  have F__law_bad_group := c.def_ 28 (d := dd__law_bad_group) rfl
  have g__law_bad_group := He.glo_ok X G (c.fact 28 (f := .glo "_law_bad_group") rfl)
  have F__law_bad_bits := c.def_ 29 (d := dd__law_bad_bits) rfl
  have g__law_bad_bits := He.glo_ok X G (c.fact 29 (f := .glo "_law_bad_bits") rfl)
  have F__law_refusal := c.def_ 30 (d := dd__law_refusal) rfl
  have g__law_refusal := He.glo_ok X G (c.fact 30 (f := .glo "_law_refusal") rfl)
  have F__law_refused := c.def_ 31 (d := dd__law_refused) rfl
  have g__law_refused := He.glo_ok X G (c.fact 31 (f := .glo "_law_refused") rfl)
  have F_law := c.def_ 32 (d := dd_law) rfl
  have g_law := He.glo_ok X G (c.fact 32 (f := .glo "law") rfl)
  have gC_BadCalls := He.glo_ok X G (c.fact 33 (f := .glo "BadCalls") rfl)
  have gC_BadDeals := He.glo_ok X G (c.fact 34 (f := .glo "BadDeals") rfl)
  have gC_BadGroup := He.glo_ok X G (c.fact 35 (f := .glo "BadGroup") rfl)
  have gC_BadLine := He.glo_ok X G (c.fact 36 (f := .glo "BadLine") rfl)
  have gC_BadNumber := He.glo_ok X G (c.fact 37 (f := .glo "BadNumber") rfl)
  have gC_BadRow := He.glo_ok X G (c.fact 38 (f := .glo "BadRow") rfl)
  have gC_BadSteps := He.glo_ok X G (c.fact 39 (f := .glo "BadSteps") rfl)
  have gC_BadTable := He.glo_ok X G (c.fact 40 (f := .glo "BadTable") rfl)
  have gC_BadText := He.glo_ok X G (c.fact 41 (f := .glo "BadText") rfl)
  have gC_BadWorlds := He.glo_ok X G (c.fact 42 (f := .glo "BadWorlds") rfl)
  have gC_JointError := He.glo_ok X G (c.fact 43 (f := .glo "JointError") rfl)
  have gC_NotThere := He.glo_ok X G (c.fact 44 (f := .glo "NotThere") rfl)
  have gC_NothingDone := He.glo_ok X G (c.fact 45 (f := .glo "NothingDone") rfl)
  have gC_TooLarge := He.glo_ok X G (c.fact 46 (f := .glo "TooLarge") rfl)
  have n_ValueError := He.free_ok X G (c.fact 47 (f := .free "ValueError") rfl)
  have n_all := He.free_ok X G (c.fact 48 (f := .free "all") rfl)
  have n_any := He.free_ok X G (c.fact 49 (f := .free "any") rfl)
  have n_bool := He.free_ok X G (c.fact 50 (f := .free "bool") rfl)
  have n_enumerate := He.free_ok X G (c.fact 51 (f := .free "enumerate") rfl)
  have n_int := He.free_ok X G (c.fact 52 (f := .free "int") rfl)
  have n_isinstance := He.free_ok X G (c.fact 53 (f := .free "isinstance") rfl)
  have n_len := He.free_ok X G (c.fact 54 (f := .free "len") rfl)
  have n_list := He.free_ok X G (c.fact 55 (f := .free "list") rfl)
  have n_range := He.free_ok X G (c.fact 56 (f := .free "range") rfl)
  have n_sorted := He.free_ok X G (c.fact 57 (f := .free "sorted") rfl)
  have n_str := He.free_ok X G (c.fact 58 (f := .free "str") rfl)
  have n_sum := He.free_ok X G (c.fact 59 (f := .free "sum") rfl)
  have n_super := He.free_ok X G (c.fact 60 (f := .free "super") rfl)
  have n_tuple := He.free_ok X G (c.fact 61 (f := .free "tuple") rfl)
  have k_MOST_PEOPLE := He.int_ok X G (c.fact 62 (f := .int "MOST_PEOPLE" 6) rfl)
  have x_BadCalls : ExcF K (He.ga K "BadCalls") := He.exc_ok (c.fact 63 (f := .exc "BadCalls") rfl)
  have x_BadGroup : ExcF K (He.ga K "BadGroup") := He.exc_ok (c.fact 64 (f := .exc "BadGroup") rfl)
  have x_BadNumber : ExcF K (He.ga K "BadNumber") := He.exc_ok (c.fact 65 (f := .exc "BadNumber") rfl)
  have fx := xfAll_ok (cx _ (List.mem_of_getElem? (i := 0) rfl))
  have r_sup := id (cx _ (List.mem_of_getElem? (i := 1) rfl))
  have r_oex := id (cx _ (List.mem_of_getElem? (i := 2) rfl))
  have r_sc := id (cx _ (List.mem_of_getElem? (i := 3) rfl))
  have r_fi := of_decide_eq_true (cx _ (List.mem_of_getElem? (i := 4) rfl))
  have r_ty := of_decide_eq_true (cx _ (List.mem_of_getElem? (i := 5) rfl))
  have r_no := of_decide_eq_true (cx _ (List.mem_of_getElem? (i := 6) rfl))
  have xf_BadRow := xfB_ok (cx _ (List.mem_of_getElem? (i := 7) rfl))
  obtain ⟨fd, F⟩ := F_law
  have e := hfa.symm.trans g_law
  cases e
  have b := FunD.bindsA (ps := ["script"]) F (fun _ _ _ _ _ _ us hl => match us, hl with | [_], _ => rfl)
  refine ⟨fd, fun s v => b s [v] rfl, fun base _ _ => ?_⟩
  have R_BadRow : RowF P w K mg base 1 "place" (He.ga K "BadRow") := row_BadRow hfn r_sup r_oex r_sc r_fi r_ty r_no n_super hP htop
  have np_place := r_no
  have cl_is_integer : Cl P w K mg base 1 "is_integer" (spF (He.ga K) (vl1 W_is_integer)) := cl_of F_is_integer g_is_integer sc_is_integer (fun _ _ _ _ _ _ us hl => match us, hl with | [_], _ => rfl) (spF_len fun ds P X h => vl1_len ds P X h) (fun cdv A outer s H E hr => der_is_integer n_bool n_int n_isinstance cdv A outer s H E hr) (P_is_integer (A := (He.ga K)))
  have cl_hidden_edges : Cl P w K mg base 1 "hidden_edges" (spFN (He.ga K) (vl2 W_hidden_edges)) := cl_of F_hidden_edges g_hidden_edges sc_hidden_edges (fun _ _ _ _ _ _ us hl => match us, hl with | [_, _], _ => rfl) (spFN_len fun ds P X h => vl2_len ds P X h) (fun cdv A outer s H E hr => der_hidden_edges  cdv A outer s H E hr) (P_hidden_edges (A := (He.ga K)))
  have cl_sums_of : Cl P w K mg base 1 "sums_of" (spFN (He.ga K) (vl2 W_sums_of)) := cl_of F_sums_of g_sums_of sc_sums_of (fun _ _ _ _ _ _ us hl => match us, hl with | [_, _], _ => rfl) (spFN_len fun ds P X h => vl2_len ds P X h) (fun cdv A outer s H E hr => der_sums_of n_sum cdv A outer s H E hr) (P_sums_of (A := (He.ga K)))
  have cl__law_pool : Cl P w K mg base 1 "_law_pool" (sp__law_pool K) := cl_of F__law_pool g__law_pool sc__law_pool (fun _ _ _ _ _ _ us hl => match us, hl with | [_], _ => rfl) (fun vs H Q E h => by obtain ⟨_, _, rfl, _⟩ := h; rfl) (fun cdv A outer s H E hr => der__law_pool n_int n_len n_range cdv A outer s H E hr) (pure_pool)
  have cl__law_take : Cl P w K mg base 1 "_law_take" (spP (He.ga K) Pl (vl1 W__law_take)) := cl_of F__law_take g__law_take sc__law_take (fun _ _ _ _ _ _ us hl => match us, hl with | [_, _], _ => rfl) (spP_len fun ds P X h => congrArg (· + 1) (vl1_len ds P X h)) (fun cdv A outer s H E hr => der__law_take n_int n_len cdv A outer s H E hr) (P__law_take (A := (He.ga K)))
  have cl__law_ways : Cl P w K mg base 1 "_law_ways" (spF (He.ga K) (vl2 W__law_ways)) := cl_of F__law_ways g__law_ways sc__law_ways (fun _ _ _ _ _ _ us hl => match us, hl with | [_, _], _ => rfl) (spF_len fun ds P X h => vl2_len ds P X h) (fun cdv A outer s H E hr => der__law_ways  cdv A outer s H E hr) (P__law_ways (A := (He.ga K)))
  have cl__law_mask : Cl P w K mg base 1 "_law_mask" (spF (He.ga K) (vl1 W__law_mask)) := cl_of F__law_mask g__law_mask sc__law_mask (fun _ _ _ _ _ _ us hl => match us, hl with | [_], _ => rfl) (spF_len fun ds P X h => vl1_len ds P X h) (fun cdv A outer s H E hr => der__law_mask n_len n_range n_sum cdv A outer s H E hr) (P__law_mask (A := (He.ga K)))
  have cl__law_bits : Cl P w K mg base 1 "_law_bits" (spFN (He.ga K) (vl2 W__law_bits)) := cl_of F__law_bits g__law_bits sc__law_bits (fun _ _ _ _ _ _ us hl => match us, hl with | [_, _], _ => rfl) (spFN_len fun ds P X h => vl2_len ds P X h) (fun cdv A outer s H E hr => der__law_bits n_range cdv A outer s H E hr) (P__law_bits (A := (He.ga K)))
  have cl_is_from_to : Cl P w K mg base 2 "is_from_to" (spF (He.ga K) (vl3 W_is_from_to)) := cl_of F_is_from_to g_is_from_to sc_is_from_to (fun _ _ _ _ _ _ us hl => match us, hl with | [_, _, _], _ => rfl) (spF_len fun ds P X h => vl3_len ds P X h) (fun cdv A outer s H E hr => der_is_from_to cl_is_integer cdv A outer s H E hr) (P_is_from_to (A := (He.ga K)))
  have cl_lots_left : Cl P w K mg base 2 "lots_left" (spFN (He.ga K) (vl3 W_lots_left)) := cl_of F_lots_left g_lots_left sc_lots_left (fun _ _ _ _ _ _ us hl => match us, hl with | [_, _, _], _ => rfl) (spFN_len fun ds P X h => vl3_len ds P X h) (fun cdv A outer s H E hr => der_lots_left cl_hidden_edges n_len n_range n_sorted n_tuple cdv A outer s H E hr) (P_lots_left (A := (He.ga K)))
  have cl__law_ties : Cl P w K mg base 2 "_law_ties" (spP (He.ga K) Pl (vl1 W__law_ties)) := cl_of F__law_ties g__law_ties sc__law_ties (fun _ _ _ _ _ _ us hl => match us, hl with | [_, _], _ => rfl) (spP_len fun ds P X h => congrArg (· + 1) (vl1_len ds P X h)) (fun cdv A outer s H E hr => der__law_ties cl__law_take n_range n_tuple cdv A outer s H E hr) (P__law_ties (A := (He.ga K)))
  have cl__law_group : Cl P w K mg base 2 "_law_group" (spP (He.ga K) Pl (vl1 W__law_group)) := cl_of F__law_group g__law_group sc__law_group (fun _ _ _ _ _ _ us hl => match us, hl with | [_, _], _ => rfl) (spP_len fun ds P X h => congrArg (· + 1) (vl1_len ds P X h)) (fun cdv A outer s H E hr => der__law_group cl__law_take n_int n_list n_range n_tuple cdv A outer s H E hr) (P__law_group (A := (He.ga K)))
  have cl__law_bad_number : Cl P w K mg base 2 "_law_bad_number" (spP (He.ga K) Pl (vl0 W__law_bad_number)) := cl_of F__law_bad_number g__law_bad_number sc__law_bad_number (fun _ _ _ _ _ _ us hl => match us, hl with | [_], _ => rfl) (spP_len fun ds P X h => congrArg (· + 1) (vl0_len ds P X h)) (fun cdv A outer s H E hr => der__law_bad_number cl__law_take cdv A outer s H E hr) (P__law_bad_number (A := (He.ga K)))
  have cl__law_bad_pair : Cl P w K mg base 2 "_law_bad_pair" (spP (He.ga K) Pl (vl3 W__law_bad_pair)) := cl_of F__law_bad_pair g__law_bad_pair sc__law_bad_pair (fun _ _ _ _ _ _ us hl => match us, hl with | [_, _, _, _], _ => rfl) (spP_len fun ds P X h => congrArg (· + 1) (vl3_len ds P X h)) (fun cdv A outer s H E hr => der__law_bad_pair cl__law_take n_str cdv A outer s H E hr) (P__law_bad_pair (A := (He.ga K)))
  have cl__law_bad_group : Cl P w K mg base 2 "_law_bad_group" (spP (He.ga K) Pl (vl2 W__law_bad_group)) := cl_of F__law_bad_group g__law_bad_group sc__law_bad_group (fun _ _ _ _ _ _ us hl => match us, hl with | [_, _, _], _ => rfl) (spP_len fun ds P X h => congrArg (· + 1) (vl2_len ds P X h)) (fun cdv A outer s H E hr => der__law_bad_group cl__law_take n_list cdv A outer s H E hr) (P__law_bad_group (A := (He.ga K)))
  have cl__law_bad_bits : Cl P w K mg base 2 "_law_bad_bits" (spP (He.ga K) Pl (vl1 W__law_bad_bits)) := cl_of F__law_bad_bits g__law_bad_bits sc__law_bad_bits (fun _ _ _ _ _ _ us hl => match us, hl with | [_, _], _ => rfl) (spP_len fun ds P X h => congrArg (· + 1) (vl1_len ds P X h)) (fun cdv A outer s H E hr => der__law_bad_bits cl__law_take n_len n_list n_tuple cdv A outer s H E hr) (P__law_bad_bits (A := (He.ga K)))
  have cl_check_number : Cl P w K mg base 3 "check_number" (spF (He.ga K) (vl3 W_check_number)) := cl_of F_check_number g_check_number sc_check_number (fun _ _ _ _ _ _ us hl => match us, hl with | [_, _, _], _ => rfl) (spF_len fun ds P X h => vl3_len ds P X h) (fun cdv A outer s H E hr => der_check_number cl_is_from_to gC_BadNumber x_BadNumber cdv A outer s H E hr) (P_check_number (A := (He.ga K)))
  have cl_is_lot : Cl P w K mg base 3 "is_lot" (spF (He.ga K) (vl2 W_is_lot)) := cl_of F_is_lot g_is_lot sc_is_lot (fun _ _ _ _ _ _ us hl => match us, hl with | [_, _], _ => rfl) (spF_len fun ds P X h => vl2_len ds P X h) (fun cdv A outer s H E hr => der_is_lot cl_is_from_to n_isinstance n_tuple cdv A outer s H E hr) (P_is_lot (A := (He.ga K)))
  have cl_check_numbers : Cl P w K mg base 3 "check_numbers" (spF (He.ga K) (vl3 W_check_numbers)) := cl_of F_check_numbers g_check_numbers sc_check_numbers (fun _ _ _ _ _ _ us hl => match us, hl with | [_, _, _], _ => rfl) (spF_len fun ds P X h => vl3_len ds P X h) (fun cdv A outer s H E hr => der_check_numbers cl_is_from_to gC_BadRow R_BadRow n_enumerate n_isinstance n_len n_list n_tuple cdv A outer s H E hr) (P_check_numbers (A := (He.ga K)))
  have cl_are_pairs : Cl P w K mg base 3 "are_pairs" (spF (He.ga K) (vl2 W_are_pairs)) := cl_of F_are_pairs g_are_pairs sc_are_pairs (fun _ _ _ _ _ _ us hl => match us, hl with | [_, _], _ => rfl) (spF_len fun ds P X h => vl2_len ds P X h) (fun cdv A outer s H E hr => der_are_pairs cl_is_from_to n_all n_isinstance n_len n_tuple cdv A outer s H E hr) (P_are_pairs (A := (He.ga K)))
  have cl__law_bad_ties : Cl P w K mg base 3 "_law_bad_ties" (spP (He.ga K) Pl (vl2 W__law_bad_ties)) := cl_of F__law_bad_ties g__law_bad_ties sc__law_bad_ties (fun _ _ _ _ _ _ us hl => match us, hl with | [_, _, _], _ => rfl) (spP_len fun ds P X h => congrArg (· + 1) (vl2_len ds P X h)) (fun cdv A outer s H E hr => der__law_bad_ties cl__law_bad_pair cl__law_take n_len n_list cdv A outer s H E hr) (P__law_bad_ties (A := (He.ga K)))
  have cl_check_group : Cl P w K mg base 4 "check_group" (spF (He.ga K) (vl2 W_check_group)) := cl_of F_check_group g_check_group sc_check_group (fun _ _ _ _ _ _ us hl => match us, hl with | [_, _], _ => rfl) (spF_len fun ds P X h => vl2_len ds P X h) (fun cdv A outer s H E hr => der_check_group cl_is_lot gC_BadGroup x_BadGroup cdv A outer s H E hr) (P_check_group (A := (He.ga K)))
  have cl_check_edges : Cl P w K mg base 4 "check_edges" (spF (He.ga K) (vl2 W_check_edges)) := cl_of F_check_edges g_check_edges sc_check_edges (fun _ _ _ _ _ _ us hl => match us, hl with | [_, _], _ => rfl) (spF_len fun ds P X h => vl2_len ds P X h) (fun cdv A outer s H E hr => der_check_edges cl_are_pairs gC_BadCalls x_BadCalls n_all n_len n_range cdv A outer s H E hr) (P_check_edges (A := (He.ga K)))
  have cl_check_bits : Cl P w K mg base 4 "check_bits" (spF (He.ga K) (vl2 W_check_bits)) := cl_of F_check_bits g_check_bits sc_check_bits (fun _ _ _ _ _ _ us hl => match us, hl with | [_, _], _ => rfl) (spF_len fun ds P X h => vl2_len ds P X h) (fun cdv A outer s H E hr => der_check_bits cl_check_numbers cdv A outer s H E hr) (P_check_bits (A := (He.ga K)))
  have cl_check_round : Cl P w K mg base 5 "check_round" (spF (He.ga K) (vl2 W_check_round)) := cl_of F_check_round g_check_round sc_check_round (fun _ _ _ _ _ _ us hl => match us, hl with | [_, _], _ => rfl) (spF_len fun ds P X h => vl2_len ds P X h) (fun cdv A outer s H E hr => der_check_round cl_check_edges cl_check_number k_MOST_PEOPLE cdv A outer s H E hr) (P_check_round (A := (He.ga K)))
  have cl_ways_said : Cl P w K mg base 6 "ways_said" (spF (He.ga K) (vl5 W_ways_said)) := cl_of F_ways_said g_ways_said sc_ways_said (fun _ _ _ _ _ _ us hl => match us, hl with | [_, _, _, _, _], _ => rfl) (spF_len fun ds P X h => vl5_len ds P X h) (fun cdv A outer s H E hr => der_ways_said cl_check_bits cl_check_group cl_check_round cl_hidden_edges cl_lots_left cl_sums_of n_any n_len n_range cdv A outer s H E hr) (P_ways_said (A := (He.ga K)))
  have cl__law_refusal : Cl P w K mg base 7 "_law_refusal" (spF (He.ga K) (vl5 W__law_refusal)) := cl_of F__law_refusal g__law_refusal sc__law_refusal (fun _ _ _ _ _ _ us hl => match us, hl with | [_, _, _, _, _], _ => rfl) (spF_len fun ds P X h => vl5_len ds P X h) (fun cdv A outer s H E hr => der__law_refusal cl_ways_said gC_BadCalls gC_BadDeals gC_BadGroup gC_BadLine gC_BadNumber gC_BadRow gC_BadSteps gC_BadTable gC_BadText gC_BadWorlds gC_JointError gC_NotThere gC_NothingDone gC_TooLarge xf_BadRow np_place n_ValueError n_isinstance n_len n_range n_tuple cdv A outer s H E hr) (P__law_refusal (A := (He.ga K)) fx)
  have rec__law_same : ∀ d : Nat, Cl P w K mg base d "_law_same" ((spF (He.ga K) (vl2 (W__law_same d)))) := fun d => by
    induction d with
    | zero => exact cl_bot (fun _ _ _ _ h => by obtain ⟨_, _, _, _, _, _, hW, _⟩ := h; obtain ⟨_, _, rfl, hd⟩ := vl2_inv hW; rw [W__law_same_zero] at hd; exact hd) F__law_same g__law_same (ps := ["found", "due"]) (fun _ _ _ _ _ _ us hl => match us, hl with | [_, _], _ => rfl)
    | succ d ih => exact cl_of F__law_same g__law_same sc__law_same (fun _ _ _ _ _ _ us hl => match us, hl with | [_, _], _ => rfl) (spF_len fun ds P X h => vl2_len ds P X h) (fun cdv A outer s H E hr => der__law_same ih n_bool n_int n_isinstance n_len n_range n_tuple cdv A outer s H E hr) (P__law_same (A := (He.ga K)) d)
  have cl__law_same := rec__law_same 9
  have cl__law_way_fits : Cl P w K mg base 10 "_law_way_fits" (spP (He.ga K) Pl (vl6 W__law_way_fits)) := cl_of F__law_way_fits g__law_way_fits sc__law_way_fits (fun _ _ _ _ _ _ us hl => match us, hl with | [_, _, _, _, _, _, _], _ => rfl) (spP_len fun ds P X h => congrArg (· + 1) (vl6_len ds P X h)) (fun cdv A outer s H E hr => der__law_way_fits cl__law_same cl__law_take cl_ways_said n_list n_tuple cdv A outer s H E hr) (P__law_way_fits (A := (He.ga K)))
  have cl__law_refused : Cl P w K mg base 10 "_law_refused" (spP (He.ga K) Pl (vl5 W__law_refused)) := cl_of F__law_refused g__law_refused sc__law_refused (fun _ _ _ _ _ _ us hl => match us, hl with | [_, _, _, _, _, _], _ => rfl) (spP_len fun ds P X h => congrArg (· + 1) (vl5_len ds P X h)) (fun cdv A outer s H E hr => der__law_refused cl__law_bad_bits cl__law_bad_group cl__law_bad_number cl__law_bad_ties cl__law_refusal cl__law_same n_tuple cdv A outer s H E hr) (P__law_refused (A := (He.ga K)))
  have cl__law_all_words_fit : Cl P w K mg base 11 "_law_all_words_fit" (spP (He.ga K) Pl (vl5 W__law_all_words_fit)) := cl_of F__law_all_words_fit g__law_all_words_fit sc__law_all_words_fit (fun _ _ _ _ _ _ us hl => match us, hl with | [_, _, _, _, _, _], _ => rfl) (spP_len fun ds P X h => congrArg (· + 1) (vl5_len ds P X h)) (fun cdv A outer s H E hr => der__law_all_words_fit cl__law_bits cl__law_mask cl__law_way_fits n_len n_range cdv A outer s H E hr) (P__law_all_words_fit (A := (He.ga K)))
  have cl__law_some_words_fit : Cl P w K mg base 11 "_law_some_words_fit" (spP (He.ga K) Pl (vl5 W__law_some_words_fit)) := cl_of F__law_some_words_fit g__law_some_words_fit sc__law_some_words_fit (fun _ _ _ _ _ _ us hl => match us, hl with | [_, _, _, _, _, _], _ => rfl) (spP_len fun ds P X h => congrArg (· + 1) (vl5_len ds P X h)) (fun cdv A outer s H E hr => der__law_some_words_fit cl__law_bits cl__law_mask cl__law_take cl__law_way_fits cdv A outer s H E hr) (P__law_some_words_fit (A := (He.ga K)))
  exact fnok_of F sc_law (fun vs H Q E h => by obtain ⟨_, _, rfl, _⟩ := h; rfl) (fun cdv A outer s H E hr => der_law cl__law_all_words_fit cl__law_group cl__law_pool cl__law_refused cl__law_some_words_fit cl__law_take cl__law_ties cl__law_ways n_len n_range cdv A outer s H E hr) (P_law (A := (He.ga K)) law96)
abbrev theRow : PySem.W.OpenRow := PySem.W.OpenLaw.row PySem.Challenge.rw_everyhands_k96_whole_ways_by_all_coins
abbrev hk : PySem.W.Hook := hookM 4 fas fns exs ("BadRow", some "__init__") v_BadRow
def ob (s : PySem.W.SharedT) : (He.AlD × Bool) × FnM := obM 4 fas fns exs ("BadRow", some "__init__") (HandSHeadRun.getT s)
theorem ob_eq (s : PySem.W.SharedT) : ob s = hk.obs s.abs := obM_eq (HandSHeadRun.getT_eq s)
abbrev loose : List PySem.Str := (["JointError", "BadGroup", "BadTable", "BadText", "BadNumber", "BadWorlds", "BadSteps", "BadCalls", "BadDeals", "NotThere", "TooLarge", "NothingDone"] : List PySem.Str) ++ (["BadRow", "BadLine", "is_integer", "is_from_to", "check_number", "is_lot", "check_group", "check_numbers", "are_pairs", "check_edges", "check_bits", "check_round"] : List PySem.Str) ++ (["hidden_edges", "lots_left", "sums_of", "ways_said", "_law_pool", "_law_take", "_law_same", "_law_ties", "_law_group", "_law_ways", "_law_mask", "_law_bits"] : List PySem.Str) ++ (["_law_way_fits", "_law_all_words_fit", "_law_some_words_fit", "_law_bad_number", "_law_bad_pair", "_law_bad_ties", "_law_bad_group", "_law_bad_bits", "_law_refusal", "_law_refused", "MOST_PEOPLE"] : List PySem.Str)
theorem run (w : World) : HandSHeadRun.RunEq theRow (PySem.W.view theRow.prog [52]) hk ob 9000 loose w := by
  intro os
  kernel_rfl
end Eh
open PySem PySem.W PySem.Calls PyProof.Rows
set_option maxHeartbeats 0
theorem PySem.Challenge.cw_everyhands_k96_whole_ways_by_all_coins_holds : PySem.Challenge.rw_everyhands_k96_whole_ways_by_all_coins.Holds := by
  w_on; o_law
  refine HandSHeadRun.head_any (r := OpenLaw.row PySem.Challenge.rw_everyhands_k96_whole_ways_by_all_coins) (q := view (OpenLaw.row PySem.Challenge.rw_everyhands_k96_whole_ways_by_all_coins).prog [52]) (H := Eh.hk) (ob := Eh.ob) (M := 9000) (loose := Eh.loose) (d := HandSHeadRun.topDef (OpenLaw.row PySem.Challenge.rw_everyhands_k96_whole_ways_by_all_coins).prog 52) (kwd := []) Eh.ob_eq
    (by kernel_rfl) (fun s => by kernel_rfl) Eh.run (by kernel_rfl) (by kernel_rfl) (by kernel_rfl) (by rfl) (by first | assumption | decide +kernel) (by decide +kernel) ⟨rfl, rfl, rfl, rfl, rfl, by decide +kernel⟩ ?hw ?hc
  case hw => w_witness2
  case hc =>
    refine Eh.walkE (l := PySem.Challenge.rw_everyhands_k96_whole_ways_by_all_coins) (n := 63) (k := 12) (x := "script") (CX := fun w => L2N.CX (PySem.Challenge.rw_everyhands_k96_whole_ways_by_all_coins).prog w) rfl (by decide) (by kernel_rfl) ⟨rfl, by decide, by decide⟩ ?F (fun _ _ _ _ _ z => Eh.cxn_false z)
    intro w mg fa h Y G hmg0
    obtain ⟨K, KX, c, cx, hfn⟩ := Y
    have hmg : mg ("law" : PySem.Str) = some (.ref fa) := by
      have e : (HandSHeadRun.topDef (OpenLaw.row PySem.Challenge.rw_everyhands_k96_whole_ways_by_all_coins).prog 52).name = ("law" : PySem.Str) := by kernel_rfl
      rw [← e]
      exact hmg0
    obtain ⟨fd, hb, hF⟩ := Eh.facts (P := (PySem.Challenge.rw_everyhands_k96_whole_ways_by_all_coins).prog) (w := w) KX G hmg c cx hfn (by kernel_rfl) (by kernel_rfl)
    exact ⟨K, fd, Eh.sp_law K, KX, hb, fun H a ns hl ho hS => ⟨a, ns, rfl, Eh.fz_of ho hS, hl, fun _ => rfl⟩, hF⟩
