import PyProof.Rows.All
import Wide.All
import OpenK.AllK
import Wide.FinOn
import KE.KIsAll
import KE.KTryMore
import KE.GoesEnum
import KE.BitLaws
import PyProof.ListRange
import HandS.Base
import HandS.Call
import HandS.Exc
import HandS.ExcCtx
import HandS.ExcIs
import HandS.ExcField
import HandS.HotCalls
import HandS.ForMost
import HandS.ForExc
import HandS.Walk
import HandS.WordsExc
import HandS.Defaults
import HandS.Rev
import HandS.RevTup
import HandS.Zip
import HandS.Deep
import HandS.TupAny
import HandS.TupMul
import HandS.IsInst
import HandS.Conv
import HandS.Strs
import HandS.SetFor
import HandS.SortInts
import HandS.WideBits
import HandS.Head0
import HandS.Head1
import HandS.Head2
import HandS.HeadEnd
import HandS.HeadHook1
import HandS.HeadHook2
import PySem.Challenge.RW_everyhands_k86_whole_rounds_of_answers
set_option Elab.async false
set_option linter.all false
set_option maxRecDepth 100000
set_option maxHeartbeats 4000000
namespace Eh
open PySem PySem.Spec PyProof.Rows L2

/-! ### data in the heap -/
mutual
inductive Rp (F : Hp) : V → PyData → Prop
  | non : Rp F .non .none
  | bl (b : Bool) : Rp F (.bl b) (.bool b)
  | int (i : Int) : Rp F (.int i) (.int i)
  | str (x : Str) : Rp F (.str x) (.str x)
  | lst {a : Addr} {xs : List V} {ds : List PyData} : F a = some (.lst xs) → RpAll F xs ds → Rp F (.ref a) (.list ds)
  | tup {a : Addr} {xs : List V} {ds : List PyData} : F a = some (.tup xs) → RpAll F xs ds → Rp F (.ref a) (.tuple ds)
inductive RpAll (F : Hp) : List V → List PyData → Prop
  | nil : RpAll F [] []
  | cons {v : V} {vs : List V} {d : PyData} {ds : List PyData} : Rp F v d → RpAll F vs ds → RpAll F (v :: vs) (d :: ds)
end

def Sub (F H : Hp) : Prop := ∀ a o, F a = some o → H a = some o
theorem Sub.refl (F : Hp) : Sub F F := fun _ _ h => h
theorem Sub.trans {F G H : Hp} (a : Sub F G) (b : Sub G H) : Sub F H := fun x o h => b x o (a x o h)
theorem Sub.new {H : Hp} {p : Addr} {o : HO} (h : H p = none) : Sub H (upd H p o) := fun a u e => by
  rw [upd_ne (ne_of_none e h)]
  exact e
mutual
theorem Rp.mono {F G : Hp} (s : Sub F G) : ∀ {v : V} {d : PyData}, Rp F v d → Rp G v d
  | _, _, .non => .non
  | _, _, .bl b => .bl b
  | _, _, .int i => .int i
  | _, _, .str x => .str x
  | _, _, .lst h a => .lst (s _ _ h) (RpAll.mono s a)
  | _, _, .tup h a => .tup (s _ _ h) (RpAll.mono s a)
theorem RpAll.mono {F G : Hp} (s : Sub F G) : ∀ {vs : List V} {ds : List PyData}, RpAll F vs ds → RpAll G vs ds
  | _, _, .nil => .nil
  | _, _, .cons h a => .cons (Rp.mono s h) (RpAll.mono s a)
end
mutual
theorem Rp.dp {F : Hp} {K : PySem.W.Frag} : ∀ {v : V} {d : PyData}, Rp F v d → Dp K F v d
  | _, _, .non => .non
  | _, _, .bl b => .bl b
  | _, _, .int i => .int i
  | _, _, .str x => .str x
  | _, _, .lst h a => .lst (SqL.of h) (RpAll.dp a)
  | _, _, .tup h a => .tup (SqT.of h) (RpAll.dp a)
theorem RpAll.dp {F : Hp} {K : PySem.W.Frag} : ∀ {vs : List V} {ds : List PyData}, RpAll F vs ds → DpAll K F vs ds
  | _, _, .nil => .nil
  | _, _, .cons h a => .cons (Rp.dp h) (RpAll.dp a)
end
section
variable {F : Hp} {v : V} {vs ws : List V} {d : PyData} {ds es : List PyData}
theorem Rp.int_inv {i : Int} (h : Rp F v (.int i)) : v = .int i := by cases h; rfl
theorem Rp.bl_inv {b : Bool} (h : Rp F v (.bool b)) : v = .bl b := by cases h; rfl
theorem Rp.str_inv {x : Str} (h : Rp F v (.str x)) : v = .str x := by cases h; rfl
theorem Rp.non_inv (h : Rp F v .none) : v = .non := by cases h; rfl
theorem Rp.lst_inv (h : Rp F v (.list ds)) : ∃ a xs, v = .ref a ∧ F a = some (.lst xs) ∧ RpAll F xs ds := by
  cases h with
  | lst h a => exact ⟨_, _, rfl, h, a⟩
theorem Rp.tup_inv (h : Rp F v (.tuple ds)) : ∃ a xs, v = .ref a ∧ F a = some (.tup xs) ∧ RpAll F xs ds := by
  cases h with
  | tup h a => exact ⟨_, _, rfl, h, a⟩
theorem RpAll.length (h : RpAll F vs ds) : vs.length = ds.length := by
  induction ds generalizing vs with
  | nil => cases h; rfl
  | cons d ds ih => cases h with | cons h a => rw [List.length_cons, List.length_cons, ih a]
theorem RpAll.get : ∀ {vs : List V} {ds : List PyData} {i : Nat} {d : PyData}, RpAll F vs ds → ds[i]? = some d → ∃ v, vs[i]? = some v ∧ Rp F v d
  | _, _, i, d, .nil, e => by simp at e
  | _, _, 0, d, .cons h a, e => ⟨_, rfl, by simp at e; subst e; exact h⟩
  | _, _, i + 1, d, .cons h a, e => by
    obtain ⟨v, h1, h2⟩ := RpAll.get (i := i) (d := d) a (by simpa using e)
    exact ⟨v, by simpa using h1, h2⟩
theorem RpAll.append : ∀ {vs ws : List V} {ds es : List PyData}, RpAll F vs ds → RpAll F ws es → RpAll F (vs ++ ws) (ds ++ es)
  | _, _, _, _, .nil, b => b
  | _, _, _, _, .cons h a, b => .cons h (RpAll.append a b)
theorem RpAll.one (h : Rp F v d) : RpAll F [v] [d] := .cons h .nil
theorem RpAll.set : ∀ {vs : List V} {ds : List PyData} (i : Nat) {v : V} {d : PyData}, RpAll F vs ds → Rp F v d → RpAll F (vs.set i v) (ds.set i d)
  | _, _, _, _, _, .nil, _ => .nil
  | _, _, 0, _, _, .cons _ a, r => .cons r a
  | _, _, i + 1, _, _, .cons h a, r => .cons h (RpAll.set i a r)
theorem RpAll.take : ∀ {vs : List V} {ds : List PyData} (n : Nat), RpAll F vs ds → RpAll F (vs.take n) (ds.take n)
  | _, _, 0, _ => .nil
  | _, _, _ + 1, .nil => .nil
  | _, _, n + 1, .cons h a => .cons h (RpAll.take n a)
theorem RpAll.drop : ∀ {vs : List V} {ds : List PyData} (n : Nat), RpAll F vs ds → RpAll F (vs.drop n) (ds.drop n)
  | _, _, 0, a => a
  | _, _, _ + 1, .nil => .nil
  | _, _, n + 1, .cons _ a => RpAll.drop n a
theorem RpAll.eraseIdx : ∀ {vs : List V} {ds : List PyData} (n : Nat), RpAll F vs ds → RpAll F (vs.eraseIdx n) (ds.eraseIdx n)
  | _, _, _, .nil => .nil
  | _, _, 0, .cons _ a => a
  | _, _, n + 1, .cons h a => .cons h (RpAll.eraseIdx n a)
theorem RpAll.reverse (h : RpAll F vs ds) : RpAll F vs.reverse ds.reverse := by
  induction ds generalizing vs with
  | nil => cases h; exact .nil
  | cons d ds ih => cases h with | cons h a => rw [List.reverse_cons, List.reverse_cons]; exact (ih a).append (.one h)
theorem RpAll.ints : ∀ {vs : List V} {ns : List Int}, RpAll F vs (ns.map .int) → vs = ns.map V.int
  | _, [], .nil => rfl
  | _, n :: ns, .cons h a => by rw [h.int_inv, a.ints]; rfl
theorem RpAll.of_ints : ∀ (ns : List Int), RpAll F (ns.map V.int) (ns.map .int)
  | [] => .nil
  | n :: ns => .cons (.int n) (RpAll.of_ints ns)
theorem RpAll.bls : ∀ {vs : List V} {bs : List Bool}, RpAll F vs (bs.map .bool) → vs = bs.map V.bl
  | _, [], .nil => rfl
  | _, n :: ns, .cons h a => by rw [h.bl_inv, a.bls]; rfl
theorem RpAll.flat : ∀ {vs : List V} {ds : List PyData}, RpAll F vs ds → (∀ d ∈ ds, ∀ es, d ≠ .list es ∧ d ≠ .tuple es) → vs.all flatV = true
  | _, _, .nil, _ => rfl
  | _, _, .cons h a, n => by
    rw [List.all_cons, RpAll.flat a fun d hd => n d (List.mem_cons_of_mem _ hd), Bool.and_true]
    cases h with
    | non => rfl
    | bl b => rfl
    | int i => rfl
    | str x => rfl
    | lst h a => exact absurd rfl (n _ List.mem_cons_self _).1
    | tup h a => exact absurd rfl (n _ List.mem_cons_self _).2
end

/-! ### worlds: F what stands for good, H all that is tracked; S what a pool's draws may change -/
structure Grow (S : List Addr) (F H F' H' : Hp) : Prop where
  ff : Sub F F'
  fh : Sub F' H'
  hh : ∀ a o, a ∉ S → H a = some o → H' a = some o
  th : ∀ a, H a ≠ none → H' a ≠ none
  nw : ∀ a, H a ≠ none → F a = none → F' a = none
section
variable {S : List Addr} {F H F' H' F'' H'' : Hp} {p : Addr} {o : HO}
theorem Grow.refl (s : Sub F H) : Grow S F H F H := ⟨Sub.refl F, s, fun _ _ _ h => h, fun _ h => h, fun _ _ h => h⟩
theorem Grow.trans (a : Grow S F H F' H') (b : Grow S F' H' F'' H'') : Grow S F H F'' H'' :=
  ⟨a.ff.trans b.ff, b.fh, fun x o n h => b.hh x o n (a.hh x o n h), fun x h => b.th x (a.th x h), fun x h n => b.nw x (a.th x h) (a.nw x h n)⟩
theorem Grow.weak (a : Grow [] F H F' H') : Grow S F H F' H' := ⟨a.ff, a.fh, fun x o _ h => a.hh x o (by simp) h, a.th, a.nw⟩
theorem Grow.sub (a : Grow [] F H F' H') : Sub H H' := fun x o h => a.hh x o (by simp) h
theorem Grow.fresh (a : Grow S F H F' H') (h : H' p = none) : H p = none := by
  cases q : H p with
  | none => rfl
  | some u => exact absurd h (a.th p (by rw [q]; exact fun z => nomatch z))
theorem Sub.none (s : Sub F H) (h : H p = none) : F p = none := by
  cases q : F p with
  | none => rfl
  | some u => rw [s p u q] at h; cases h
theorem upd_th {a : Addr} (h : H a ≠ none) : upd H p o a ≠ none := by
  by_cases e : a = p
  · subst e; rw [upd_same]; exact fun z => nomatch z
  · rw [upd_ne e]; exact h
theorem upd_sub (s : Sub F H) : Sub (upd F p o) (upd H p o) := fun a u e => by
  by_cases z : a = p
  · subst z; rw [upd_same] at e ⊢; exact e
  · rw [upd_ne z] at e ⊢; exact s a u e
/-- a new object that stands for good -/
theorem Grow.new (s : Sub F H) (h : H p = none) : Grow S F H (upd F p o) (upd H p o) :=
  ⟨Sub.new (s.none h), upd_sub s, fun a u _ e => Sub.new h a u e, fun a e => upd_th e, fun a e n => by
    by_cases z : a = p
    · subst z; exact absurd h e
    · rw [upd_ne z]; exact n⟩
/-- a new object that may change -/
theorem Grow.newM (s : Sub F H) (h : H p = none) : Grow S F H F (upd H p o) :=
  ⟨Sub.refl F, s.trans (Sub.new h), fun a u _ e => Sub.new h a u e, fun a e => upd_th e, fun _ _ n => n⟩
/-- a changing object stands for good from now on -/
theorem Grow.freeze (g : Grow S F H F' H') (h : H p = none) (h' : H' p = some o) (hf : F' p = none) : Grow S F H (upd F' p o) H' :=
  ⟨g.ff.trans (Sub.new hf), fun a u e => by
    by_cases z : a = p
    · subst z; rw [upd_same] at e; cases e; exact h'
    · rw [upd_ne z] at e; exact g.fh a u e, g.hh, g.th, fun a e n => by
    by_cases z : a = p
    · subst z; exact absurd h e
    · rw [upd_ne z]; exact g.nw a e n⟩
/-- an own object is changed -/
theorem Grow.mut (g : Grow S F H F' H') (h : H p = none) (hf : F' p = none) : Grow S F H F' (upd H' p o) :=
  ⟨g.ff, fun a u e => by
    have z : a ≠ p := fun z => by subst z; rw [hf] at e; cases e
    rw [upd_ne z]; exact g.fh a u e, fun a u n e => by
    have z : a ≠ p := fun z => by subst z; rw [h] at e; cases e
    rw [upd_ne z]; exact g.hh a u n e, fun a e => upd_th (g.th a e), g.nw⟩
theorem Grow.chain {B : Hp} {F0 F1 H1 : Hp} (a : Grow S F0 B F1 H1) (b : Grow S F1 B F H) : Grow S F0 B F H :=
  ⟨a.ff.trans b.ff, b.fh, b.hh, b.th, fun x h n => b.nw x h (a.nw x h n)⟩
theorem Grow.start (a : Grow S F H F' H') : Grow S F' H F' H' := ⟨Sub.refl _, a.fh, a.hh, a.th, fun _ _ n => n⟩
end

/-- a pool: the addresses that its draws change, the list itself, what is true of it -/
structure Pc where
  S : List Addr
  p : Addr
  PI : Hp → Prop
  loc : ∀ H H' : Hp, (∀ a ∈ S, H' a = H a) → PI H → PI H'
def pc0 : Pc := ⟨[], 0, fun _ => True, fun _ _ _ _ => trivial⟩
structure Wd (C : Pc) (F H : Hp) : Prop where
  sub : Sub F H
  pi : C.PI H
  sF : ∀ a ∈ C.S, F a = none
  sH : ∀ a ∈ C.S, H a ≠ none
section
variable {C : Pc} {B F H F' H' : Hp} {p : Addr} {o : HO}
theorem Wd.grow (w : Wd C F H) (g : Grow [] F H F' H') : Wd C F' H' :=
  ⟨g.fh, C.loc H H' (fun a ha => by
    cases q : H a with
    | none => exact absurd q (w.sH a ha)
    | some u => exact g.sub a u q) w.pi, fun a ha => g.nw a (w.sH a ha) (w.sF a ha), fun a ha => g.th a (w.sH a ha)⟩
theorem wd0 (s : Sub F H) : Wd pc0 F H := ⟨s, trivial, fun a h => (List.not_mem_nil h).elim, fun a h => (List.not_mem_nil h).elim⟩
theorem Wd.mut (w : Wd C F H) (hp : p ∉ C.S) (hf : F p = none) : Wd C F (upd H p o) :=
  ⟨fun a u e => by
    have z : a ≠ p := fun z => by subst z; rw [hf] at e; cases e
    rw [upd_ne z]; exact w.sub a u e, C.loc H _ (fun a ha => upd_ne fun z => hp (z ▸ ha)) w.pi, w.sF, fun a ha => upd_th (w.sH a ha)⟩
theorem Wd.freeze (w : Wd C F H) (hp : p ∉ C.S) (h : H p = some o) (hf : F p = none) : Wd C (upd F p o) H :=
  ⟨fun a u e => by
    by_cases z : a = p
    · subst z; rw [upd_same] at e; cases e; exact h
    · rw [upd_ne z] at e; exact w.sub a u e, w.pi, fun a ha => by
    have z : a ≠ p := fun z => hp (z ▸ ha)
    rw [upd_ne z]; exact w.sF a ha, w.sH⟩
end

/-! ### what the slots hold -/
/-- a list that nobody changes: frozen, or an object of the module -/
def FzL (K : PySem.W.Frag) (S : List Addr) (H : Hp) (a : Addr) (xs : List V) : Prop := (∃ o, H a = some (.frz o (.lst xs)) ∧ a ∉ S) ∨
  ∃ (o : Obj) (its : Array Value) (n : Nat), K.lookup a = some o ∧ o.cls = .type "list" ∧ o.dict = none ∧ o.data = .seq its n ∧ its.size ≤ sizeLine ∧ Vals xs its.toList
inductive Sl where
  | no | dat (d : PyData) | own (ds : List PyData) | pool | fz (K : PySem.W.Frag) (a : Addr) (xs : List V) | ref (a : Addr)
def SlOk (C : Pc) (B F H : Hp) (x : Option (Option V)) : Sl → Prop
  | .no => True
  | .dat d => ∃ v, x = some (some v) ∧ Rp F v d
  | .own ds => ∃ p vs, x = some (some (.ref p)) ∧ H p = some (.lst vs) ∧ F p = none ∧ B p = none ∧ p ∉ C.S ∧ RpAll F vs ds
  | .pool => x = some (some (.ref C.p))
  | .fz K a xs => x = some (some (.ref a)) ∧ FzL K C.S H a xs
  | .ref a => x = some (some (.ref a))
structure Gm (C : Pc) (B F H : Hp) (σ : L2.St) (Γ : List Sl) : Prop where
  len : Γ.length = σ.length
  ok : ∀ (i : Nat) (s : Sl), Γ[i]? = some s → SlOk C B F H σ[i]? s
  inj : ∀ (i j : Nat) (ds es : List PyData) (p : Addr), Γ[i]? = some (.own ds) → Γ[j]? = some (.own es) → σ[i]? = some (some (.ref p)) → σ[j]? = some (some (.ref p)) → i = j
section
variable {C : Pc} {B F H F' H' : Hp} {σ : L2.St} {Γ : List Sl} {i : Nat} {v : V} {d : PyData} {ds : List PyData} {p : Addr}
theorem SlOk.grow {x : Option (Option V)} {s : Sl} (k : SlOk C B F H x s) (g : Grow C.S F H F' H') : SlOk C B F' H' x s := by
  cases s with
  | no => trivial
  | dat d => obtain ⟨v, e, r⟩ := k; exact ⟨v, e, r.mono g.ff⟩
  | own ds =>
    obtain ⟨p, vs, e, h, f, b, n, r⟩ := k
    exact ⟨p, vs, e, g.hh p _ n h, g.nw p (by rw [h]; exact fun z => nomatch z) f, b, n, r.mono g.ff⟩
  | pool => exact k
  | fz K a xs => exact ⟨k.1, k.2.imp (fun ⟨o, h, n⟩ => ⟨o, g.hh a _ n h, n⟩) id⟩
  | ref a => exact k
theorem Gm.grow (E : Gm C B F H σ Γ) (g : Grow C.S F H F' H') : Gm C B F' H' σ Γ := ⟨E.len, fun i s e => (E.ok i s e).grow g, E.inj⟩
theorem Gm.set (E : Gm C B F H σ Γ) {s : Sl} (k : SlOk C B F H (some (some v)) s)
    (n : ∀ ds, s = .own ds → ∀ (j : Nat) es p, v = .ref p → Γ[j]? = some (.own es) → σ[j]? ≠ some (some (.ref p))) : Gm C B F H (σ.set i (some v)) (Γ.set i s) := by
  refine ⟨by rw [List.length_set, List.length_set, E.len], fun j t e => ?_, fun j m ds es p e1 e2 e3 e4 => ?_⟩
  · rw [List.getElem?_set] at e ⊢
    by_cases hj : i = j
    · subst hj
      rw [if_pos rfl] at e ⊢
      by_cases hl : i < Γ.length
      · rw [if_pos hl] at e
        rw [if_pos (E.len ▸ hl)]
        cases e
        exact k
      · rw [if_neg hl] at e; cases e
    · rw [if_neg hj] at e ⊢
      exact E.ok j t e
  · rw [List.getElem?_set] at e1 e2 e3 e4
    by_cases hj : i = j
    · by_cases hk : i = m
      · exact hj.symm.trans hk
      · subst hj
        rw [if_pos rfl] at e1 e3
        rw [if_neg hk] at e2 e4
        by_cases hl : i < Γ.length
        · rw [if_pos hl] at e1
          rw [if_pos (E.len ▸ hl)] at e3
          cases e1
          cases e3
          exact absurd e4 (n _ rfl m es p rfl e2)
        · rw [if_neg hl] at e1; cases e1
    · by_cases hk : i = m
      · subst hk
        rw [if_pos rfl] at e2 e4
        rw [if_neg hj] at e1 e3
        by_cases hl : i < Γ.length
        · rw [if_pos hl] at e2
          rw [if_pos (E.len ▸ hl)] at e4
          cases e2
          cases e4
          exact absurd e3 (n _ rfl j ds p rfl e1)
        · rw [if_neg hl] at e2; cases e2
      · rw [if_neg hj] at e1 e3
        rw [if_neg hk] at e2 e4
        exact E.inj j m ds es p e1 e2 e3 e4
theorem Gm.dat (E : Gm C B F H σ Γ) (r : Rp F v d) : Gm C B F H (σ.set i (some v)) (Γ.set i (.dat d)) := E.set ⟨v, rfl, r⟩ fun _ z => nomatch z
/-- a slot forgotten -/
theorem Gm.forget (E : Gm C B F H σ Γ) (x : Option V) : Gm C B F H (σ.set i x) (Γ.set i .no) := by
  refine ⟨by rw [List.length_set, List.length_set, E.len], fun j t e => ?_, fun j k ds es p e1 e2 e3 e4 => ?_⟩
  · rw [List.getElem?_set] at e ⊢
    by_cases hj : i = j
    · subst hj
      rw [if_pos rfl] at e
      by_cases hl : i < Γ.length
      · rw [if_pos hl] at e; cases e; trivial
      · rw [if_neg hl] at e; cases e
    · rw [if_neg hj] at e ⊢
      exact E.ok j t e
  · rw [List.getElem?_set] at e1 e2 e3 e4
    by_cases hj : i = j
    · subst hj
      rw [if_pos rfl] at e1
      by_cases hl : i < Γ.length
      · rw [if_pos hl] at e1; cases e1
      · rw [if_neg hl] at e1; cases e1
    · by_cases hk : i = k
      · subst hk
        rw [if_pos rfl] at e2
        by_cases hl : i < Γ.length
        · rw [if_pos hl] at e2; cases e2
        · rw [if_neg hl] at e2; cases e2
      · rw [if_neg hj] at e1 e3
        rw [if_neg hk] at e2 e4
        exact E.inj j k ds es p e1 e2 e3 e4
def wipeG (Γ : List Sl) : List Nat → List Sl
  | [] => Γ
  | v :: vs => (wipeG Γ vs).set v .no
theorem Gm.wipe (E : Gm C B F H σ Γ) : ∀ vs : List Nat, Gm C B F H (L2.wipe σ vs) (wipeG Γ vs)
  | [] => E
  | _ :: vs => (Gm.wipe E vs).forget none
theorem Gm.get (E : Gm C B F H σ Γ) (h : Γ[i]? = some (.dat d)) : ∃ v, σ[i]? = some (some v) ∧ Rp F v d := E.ok i _ h
/-- the own list of slot i is changed -/
theorem Gm.mut (E : Gm C B F H σ Γ) {vs : List V} {es : List PyData} (h : Γ[i]? = some (.own ds)) (hp : σ[i]? = some (some (.ref p))) (r : RpAll F vs es) : Gm C B F (upd H p (.lst vs)) σ (Γ.set i (.own es)) := by
  obtain ⟨p', vs', e', h', f', b', n', r'⟩ := E.ok i _ h
  have ep : p' = p := by rw [hp] at e'; cases e'; rfl
  subst ep
  refine ⟨by rw [List.length_set, E.len], fun j t e => ?_, fun j k ds es p e1 e2 e3 e4 => ?_⟩
  · rw [List.getElem?_set] at e
    by_cases hj : i = j
    · subst hj
      rw [if_pos rfl] at e
      by_cases hl : i < Γ.length
      · rw [if_pos hl] at e
        cases e
        exact ⟨p', vs, hp, upd_same, f', b', n', r⟩
      · rw [if_neg hl] at e; cases e
    · rw [if_neg hj] at e
      have k := E.ok j t e
      cases t with
      | no => trivial
      | dat d => exact k
      | own fs =>
        obtain ⟨q, us, e1, h1, f1, b1, n1, r1⟩ := k
        have nq : q ≠ p' := fun z => hj (E.inj i j ds fs p' h e hp (z ▸ e1))
        exact ⟨q, us, e1, (upd_ne nq).trans h1, f1, b1, n1, r1⟩
      | pool => exact k
      | fz K a xs =>
        refine ⟨k.1, k.2.imp (fun ⟨o, h, n⟩ => ⟨o, ?_, n⟩) id⟩
        have na : a ≠ p' := fun z => by
          subst z
          have z2 := h.symm.trans h'
          cases z2
        exact (upd_ne na).trans h
      | ref a => exact k
  · rw [List.getElem?_set] at e1 e2
    have back : ∀ (m : Nat) (xs : List PyData), (if i = m then if i < Γ.length then some (Sl.own es) else none else Γ[m]?) = some (.own xs) → ∃ ys, Γ[m]? = some (.own ys) := fun m xs q => by
      by_cases hm : i = m
      · subst hm; exact ⟨_, h⟩
      · rw [if_neg hm] at q; exact ⟨_, q⟩
    rename_i ds0
    have b1 : ∃ ys, Γ[j]? = some (.own ys) := by
      by_cases hm : i = j
      · subst hm; exact ⟨_, h⟩
      · rw [if_neg hm] at e1; exact ⟨_, e1⟩
    have b2 : ∃ ys, Γ[k]? = some (.own ys) := by
      by_cases hm : i = k
      · subst hm; exact ⟨_, h⟩
      · rw [if_neg hm] at e2; exact ⟨_, e2⟩
    obtain ⟨ys, y1⟩ := b1
    obtain ⟨zs, y2⟩ := b2
    exact E.inj j k ys zs p y1 y2 e3 e4
end
end Eh

namespace Eh
open PySem PySem.Spec PyProof.Rows L2
/-! ### a tuple once, and no times -/
theorem tuple_mul1 (l : Addr) (items : Array Value) (n : Nat) (dd : Option Addr) (sl : Array (Option Value)) (u : Tok) :
    Meets (Builtin.«tuple.__mul__» ⟨[.ref l, .int 1 u], []⟩) (fun _ R s => s.heap.get? l = some { cls := .type "tuple", dict := dd, data := .seq items n, slots := sl } ∧ R (.ok (.ret (Value.ref l))) s) :=
  .of_wp fun prog w A R s h => by
    obtain ⟨hp, g, d, tk, os⟩ := s
    obtain ⟨hl, h⟩ := h
    have f1 := AutoSeq1.idx_int
    wp_walk using wpAny_loadPart' hl
    repeat (first
      | (refine wpAny_ite_false (by first | decide | rfl) ?_; wp_walk using wpAny_loadPart' hl)
      | (refine wpAny_ite_true (decide_eq_true (by first | decide | rfl | simp)) ?_; wp_walk using wpAny_loadPart' hl))
    exact ⟨_, rfl, h⟩
theorem tuple_mul0 (l : Addr) (items : Array Value) (n : Nat) (dd : Option Addr) (sl : Array (Option Value)) (u : Tok) (c1 : (items.isEmpty || (0 : Int) == 1) = false) :
    Meets (Builtin.«tuple.__mul__» ⟨[.ref l, .int 0 u], []⟩) (fun _ R s => s.heap.get? l = some { cls := .type "tuple", dict := dd, data := .seq items n, slots := sl } ∧
      R (.ok (.ret (Value.ref s.heap.objs.size))) { s with heap := s.heap.push { cls := Value.type "tuple", data := Data.seq #[] }, toks := s.toks }) :=
  .of_wp fun prog w A R s h => by
    obtain ⟨hp, g, d, tk, os⟩ := s
    obtain ⟨hl, h⟩ := h
    have f1 := AutoSeq1.idx_int
    wp_walk using wpAny_loadPart' hl
    repeat (first
      | (refine wpAny_ite_false (by first | decide | rfl) ?_; wp_walk using wpAny_loadPart' hl)
      | (refine wpAny_ite_false (decide_eq_false (by rw [c1]; exact Bool.false_ne_true)) ?_; wp_walk using wpAny_loadPart' hl)
      | (refine wpAny_ite_true (decide_eq_true (by first | decide | rfl | simp)) ?_; wp_walk using wpAny_loadPart' hl))
    exact ⟨_, rfl, h⟩
def rRep01 (K : PySem.W.Frag) : R2 := fun x y H Q => ∃ l k xs, x = .ref l ∧ y = .int k ∧ SqT K H l xs ∧ xs ≠ [] ∧ (k = 1 ∧ Q (.ref l) H ∨ k = 0 ∧ ∀ p, H p = none → Q (.ref p) (upd H p (.tup [])))
theorem op_rep01 {X : Cx} : OpR X (binaryOp .Mult) (rRep01 X.K) := by
  intro pins s σ H x y v u Q I rx ry h
  obtain ⟨l, k, xs, rfl, rfl, hT, hne, h⟩ := h
  cases rx
  obtain ⟨t, rfl⟩ := ry
  obtain ⟨its, r, ⟨⟨cls, dd, data, sl⟩, ho, hc, n, hd⟩, hs⟩ := I.tuple hT
  simp only at hc hd
  subst hc hd
  have hle : its.length = xs.length := r.length.symm
  have hn : its ≠ [] := fun e => hne (by
    rw [e] at hle
    exact List.eq_nil_of_length_eq_zero hle.symm)
  have hi : its.toArray.isEmpty = false := by
    cases its with
    | nil => exact absurd rfl hn
    | cons a b => rfl
  rcases h with ⟨rfl, q⟩ | ⟨rfl, q⟩
  · exact wpAny_binaryOp_repeat_ref (T := "tuple") (U := "int") (by decide) ⟨_, ho, rfl⟩ (fun s' => typeIs_int s' 1 t) noFill_tuple_mul F.fills_int_mul F.slot_int_rmul repeat_tuple F.slot_int_index.lookup
      (call_meets F.slot_int_rmul (typeIs_int s 1 t) F.entry_int_rmul (F.args_int_rmul_2 _ _) (int_rmul_tuple 1 t l its.toArray n dd sl)
        ⟨ho, rfl, ⟨_, ho, rfl⟩, call_meets F.slot_tuple_mul ⟨_, ho, rfl⟩ F.entry_tuple_mul (F.args_tuple_mul_2 _ _) (tuple_mul1 l its.toArray n dd sl t) ⟨ho, ⟨.ref l, H, I, rfl, q⟩⟩⟩)
  · refine wpAny_binaryOp_repeat_ref (T := "tuple") (U := "int") (by decide) ⟨_, ho, rfl⟩ (fun s' => typeIs_int s' 0 t) noFill_tuple_mul F.fills_int_mul F.slot_int_rmul repeat_tuple F.slot_int_index.lookup
      (call_meets F.slot_int_rmul (typeIs_int s 0 t) F.entry_int_rmul (F.args_int_rmul_2 _ _) (int_rmul_tuple 0 t l its.toArray n dd sl)
        ⟨ho, rfl, ⟨_, ho, rfl⟩, call_meets F.slot_tuple_mul ⟨_, ho, rfl⟩ F.entry_tuple_mul (F.args_tuple_mul_2 _ _) (tuple_mul0 l its.toArray n dd sl t (by rw [hi]; rfl)) ⟨ho, ?_⟩⟩)
    refine ⟨.ref s.heap.objs.size, _, I.laid (t' := s.toks) (o := .tup []) (fun b ob q => Heap.get?_push_of_some _ q) (Nat.le_refl _) ?_, rfl, q _ (I.hok.fresh (Nat.le_refl _))⟩
    exact ⟨by rw [sizeLine_eq]; exact Nat.zero_le _, [], .nil, IsTup.new _ _⟩
end Eh

namespace Eh
open PySem PySem.Spec PyProof.Rows L2

/-! ### what an expression gives: data -/
def EvP (te : TE) (Γ : List Sl) (P : Hp → Hp → V → Hp → Hp → Prop) : Prop :=
  ∀ (C : Pc) (B F H : Hp) (σ : L2.St), Wd C F H → Gm C B F H σ Γ → ∀ Q : VK, (∀ v F' H', Grow [] F H F' H' → P F H v F' H' → Q v H') → te σ H Q
def EvD (te : TE) (Γ : List Sl) (d : PyData) : Prop := EvP te Γ fun _ _ v F' _ => Rp F' v d
/-- a new list -/
def EvN (te : TE) (Γ : List Sl) (ds : List PyData) : Prop :=
  EvP te Γ fun _ H v F' H' => ∃ p vs, v = .ref p ∧ H p = none ∧ F' p = none ∧ H' p = some (.lst vs) ∧ RpAll F' vs ds
/-- a list to be read; a list or tuple -/
def RdL (te : TE) (Γ : List Sl) (ds : List PyData) : Prop :=
  EvP te Γ fun _ _ v F' H' => ∃ p vs, v = .ref p ∧ H' p = some (.lst vs) ∧ RpAll F' vs ds
def RdS (te : TE) (Γ : List Sl) (ds : List PyData) : Prop :=
  EvP te Γ fun _ _ v F' H' => ∃ p vs, v = .ref p ∧ (H' p = some (.lst vs) ∨ H' p = some (.tup vs)) ∧ RpAll F' vs ds
def EvT (tt : TT) (Γ : List Sl) (b : Bool) : Prop :=
  ∀ (C : Pc) (B F H : Hp) (σ : L2.St), Wd C F H → Gm C B F H σ Γ → ∀ Q : Bool → Hp → Prop, (∀ F' H', Grow [] F H F' H' → Q b H') → tt σ H Q
def EvA (ta : TA) (Γ : List Sl) (ds : List PyData) : Prop :=
  ∀ (C : Pc) (B F H : Hp) (σ : L2.St), Wd C F H → Gm C B F H σ Γ → ∀ Q : List V → Hp → Prop, (∀ vs F' H', Grow [] F H F' H' → RpAll F' vs ds → Q vs H') → ta σ H Q
section
variable {te ta tb : TE} {Γ : List Sl} {d x y : PyData} {ds es : List PyData}
theorem EvP.imp {P P' : Hp → Hp → V → Hp → Hp → Prop} (h : EvP te Γ P) (i : ∀ C F H v F' H', Wd C F H → Grow [] F H F' H' → P F H v F' H' → P' F H v F' H') : EvP te Γ P' :=
  fun C B F H σ w g Q q => h C B F H σ w g Q fun v F' H' gr p => q v F' H' gr (i C F H v F' H' w gr p)
theorem EvD.is (h : EvD te Γ x) (e : x = y) : EvD te Γ y := e ▸ h
theorem EvN.is (h : EvN te Γ ds) (e : ds = es) : EvN te Γ es := e ▸ h
theorem EvT.is {tt : TT} {a b : Bool} (h : EvT tt Γ a) (e : a = b) : EvT tt Γ b := e ▸ h
/-- a new list stands for good -/
theorem EvN.fz (h : EvN te Γ ds) : EvD te Γ (.list ds) := fun C B F H σ w g Q q =>
  h C B F H σ w g Q fun v F' H' gr ⟨p, vs, e, n, f, l, r⟩ => by
    subst e
    exact q _ (upd F' p (.lst vs)) H' (gr.freeze n l f) (.lst upd_same (r.mono (Sub.new f)))
theorem EvN.rl (h : EvN te Γ ds) : RdL te Γ ds := h.imp fun _ _ _ _ _ _ _ _ ⟨p, vs, e, _, _, l, r⟩ => ⟨p, vs, e, l, r⟩
theorem RdL.s (h : RdL te Γ ds) : RdS te Γ ds := h.imp fun _ _ _ _ _ _ _ _ ⟨p, vs, e, l, r⟩ => ⟨p, vs, e, .inl l, r⟩
theorem EvD.rl (h : EvD te Γ (.list ds)) : RdL te Γ ds := h.imp fun _ _ _ _ _ _ _ gr r => by
  obtain ⟨a, xs, e, f, ra⟩ := Rp.lst_inv r
  exact ⟨a, xs, e, gr.fh _ _ f, ra⟩
theorem EvD.rt (h : EvD te Γ (.tuple ds)) : RdS te Γ ds := h.imp fun _ _ _ _ _ _ _ gr r => by
  obtain ⟨a, xs, e, f, ra⟩ := Rp.tup_inv r
  exact ⟨a, xs, e, .inr (gr.fh _ _ f), ra⟩

/-! ### names, constants -/
theorem ev_var {i : Nat} (h : Γ[i]? = some (.dat d)) : EvD (tVar i) Γ d := fun C B F H σ w g Q q => by
  obtain ⟨v, e, r⟩ := g.get h
  exact ⟨v, e, q v F H (.refl w.sub) r⟩
theorem rl_own {i : Nat} (h : Γ[i]? = some (.own ds)) : RdL (tVar i) Γ ds := fun C B F H σ w g Q q => by
  obtain ⟨p, vs, e, l, f, b, n, r⟩ := g.ok i _ h
  exact ⟨_, e, q _ F H (.refl w.sub) ⟨p, vs, rfl, l, r⟩⟩
theorem ev_int {i : Int} : EvD (tC (.int i)) Γ (.int i) := fun C B F H σ w g Q q => q _ F H (.refl w.sub) (.int i)
theorem ev_bl {b : Bool} : EvD (tC (.bl b)) Γ (.bool b) := fun C B F H σ w g Q q => q _ F H (.refl w.sub) (.bl b)
theorem ev_non : EvD (tC .non) Γ .none := fun C B F H σ w g Q q => q _ F H (.refl w.sub) .non
theorem ev_str {s : Str} : EvD (tC (.str s)) Γ (.str s) := fun C B F H σ w g Q q => q _ F H (.refl w.sub) (.str s)

/-! ### operators -/
def RV (r : R2) (x y d : PyData) : Prop :=
  ∀ F H v u, Sub F H → Rp F v x → Rp F u y → ∀ Q : VK, (∀ z F' H', Grow [] F H F' H' → Rp F' z d → Q z H') → r v u H Q
theorem ev_op {r : R2} (ha : EvD ta Γ x) (hb : EvD tb Γ y) (hr : RV r x y d) : EvD (tOp r ta tb) Γ d := fun C B F H σ w g Q q =>
  ha C B F H σ w g _ fun v F1 H1 g1 r1 => hb C B F1 H1 σ (w.grow g1) (g.grow g1.weak) _ fun u F2 H2 g2 r2 =>
    hr F2 H2 v u g2.fh (r1.mono g2.ff) r2 Q fun z F3 H3 g3 r3 => q z F3 H3 ((g1.trans g2).trans g3) r3
/-- two lists, each read; a list and data; data and a list -/
theorem ev_opLL {r : R2} {P : Hp → Hp → V → Hp → Hp → Prop} (ha : RdL ta Γ ds) (hb : RdL tb Γ es)
    (hr : ∀ F0 H0 F H p q vs us, Grow [] F0 H0 F H → H p = some (.lst vs) → H q = some (.lst us) → RpAll F vs ds → RpAll F us es → ∀ Q : VK, (∀ z F' H', Grow [] F H F' H' → P F0 H0 z F' H' → Q z H') → r (.ref p) (.ref q) H Q) :
    EvP (tOp r ta tb) Γ P := fun C B F H σ w g Q q =>
  ha C B F H σ w g _ fun v F1 H1 g1 ⟨p, vs, e1, h1, r1⟩ => hb C B F1 H1 σ (w.grow g1) (g.grow g1.weak) _ fun u F2 H2 g2 ⟨p2, us, e2, h2, r2⟩ => by
    subst e1 e2
    exact hr F H F2 H2 p p2 vs us (g1.trans g2) (g2.sub _ _ h1) h2 (r1.mono g2.ff) r2 Q fun z F3 H3 g3 r3 => q z F3 H3 ((g1.trans g2).trans g3) r3
theorem ev_opSD {r : R2} {P : Hp → Hp → V → Hp → Hp → Prop} (ha : RdS ta Γ ds) (hb : EvD tb Γ y)
    (hr : ∀ F0 H0 F H p vs u, Grow [] F0 H0 F H → (H p = some (.lst vs) ∨ H p = some (.tup vs)) → RpAll F vs ds → Rp F u y → ∀ Q : VK, (∀ z F' H', Grow [] F H F' H' → P F0 H0 z F' H' → Q z H') → r (.ref p) u H Q) :
    EvP (tOp r ta tb) Γ P := fun C B F H σ w g Q q =>
  ha C B F H σ w g _ fun v F1 H1 g1 ⟨p, vs, e1, h1, r1⟩ => hb C B F1 H1 σ (w.grow g1) (g.grow g1.weak) _ fun u F2 H2 g2 r2 => by
    subst e1
    exact hr F H F2 H2 p vs u (g1.trans g2) (h1.imp (g2.sub _ _) (g2.sub _ _)) (r1.mono g2.ff) r2 Q fun z F3 H3 g3 r3 => q z F3 H3 ((g1.trans g2).trans g3) r3
theorem ev_opDS {r : R2} {P : Hp → Hp → V → Hp → Hp → Prop} (ha : EvD ta Γ x) (hb : RdS tb Γ ds)
    (hr : ∀ F0 H0 F H v p us, Grow [] F0 H0 F H → Rp F v x → (H p = some (.lst us) ∨ H p = some (.tup us)) → RpAll F us ds → ∀ Q : VK, (∀ z F' H', Grow [] F H F' H' → P F0 H0 z F' H' → Q z H') → r v (.ref p) H Q) :
    EvP (tOp r ta tb) Γ P := fun C B F H σ w g Q q =>
  ha C B F H σ w g _ fun v F1 H1 g1 r1 => hb C B F1 H1 σ (w.grow g1) (g.grow g1.weak) _ fun u F2 H2 g2 ⟨p, us, e2, h2, r2⟩ => by
    subst e2
    exact hr F H F2 H2 v p us (g1.trans g2) (r1.mono g2.ff) h2 r2 Q fun z F3 H3 g3 r3 => q z F3 H3 ((g1.trans g2).trans g3) r3
end

theorem size_ok {n : Nat} (h : n ≤ 100000) : n ≤ sizeLine := Nat.le_trans h (by decide)
theorem size_lt {n : Nat} (h : n < 100000) : n < sizeLine := Nat.lt_of_lt_of_le h (by decide)

/-! ### + -/
def rAddA (K : PySem.W.Frag) : R2 := fun x y H Q => rI0 (fun i j => .int (i + j)) x y H Q ∨ rCat x y H Q ∨ rCatA K x y H Q
def rSubI : R2 := rI0 fun i j => .int (i - j)
def rMulA (K : PySem.W.Frag) : R2 := fun x y H Q => rI CMul (fun i j => .int (i * j)) x y H Q ∨ rRep x y H Q ∨ rRepT K x y H Q ∨ rRep01 K x y H Q
def rModI : R2 := rI (fun _ j => 0 < j) fun i j => .int (i % j)
def rDivI : R2 := rI CDiv fun i j => .int (i / j)
def rPowI : R2 := rI CPow fun i j => .int (i ^ j.toNat)
def rShlI : R2 := rI CPow fun i j => .int (i * 2 ^ j.toNat)
def rShrI : R2 := rI (fun _ j => 0 ≤ j) fun i j => .int (i / 2 ^ j.toNat)
def rAndI : R2 := rI0 fun i j => .int (Builtin.bitAnd i j)
def rOrI : R2 := rI0 fun i j => .int (Builtin.bitOr i j)
def rXorI : R2 := rI0 fun i j => .int (Builtin.bitXor i j)
def rLtI : R2 := rI0 fun i j => .bl (decide (i < j))
def rLeI : R2 := rI0 fun i j => .bl (decide (i ≤ j))
def rGtI : R2 := rI0 fun i j => .bl (decide (j < i))
def rGeI : R2 := rI0 fun i j => .bl (decide (j ≤ i))
/-- ==: None, bools, ints, texts by value; data of any depth -/
def rEqA (K : PySem.W.Frag) : R2 := fun x y H Q => rEq x y H Q ∨ rEqD K x y H Q
def rNeA (K : PySem.W.Frag) : R2 := fun x y H Q => rNe x y H Q ∨ rNeD K x y H Q
def rIsN : R2 := fun x y H Q => y = .non ∧ Q (.bl (decide (x = .non))) H
def rNotN : R2 := fun x y H Q => y = .non ∧ Q (.bl (!decide (x = .non))) H
def rNegI : V → Hp → VK → Prop := rU fun i => .int (-i)
section
variable {X : Cx}
theorem oAdd : OpR X (binaryOp .Add) (rAddA X.K) := op_add.or (op_cat.or op_catA)
theorem oSub : OpR X (binaryOp .Sub) rSubI := op_sub
theorem oMul : OpR X (binaryOp .Mult) (rMulA X.K) := op_mul.or (op_rep.or (op_repT.or op_rep01))
theorem oMod : OpR X (binaryOp .Mod) rModI := op_mod
theorem oDiv : OpR X (binaryOp .FloorDiv) rDivI := op_fdiv
theorem oPow : OpR X (binaryOp .Pow) rPowI := op_pow
theorem oShl : OpR X (binaryOp .LShift) rShlI := op_shl
theorem oShr : OpR X (binaryOp .RShift) rShrI := op_shr
theorem oAnd : OpR X (binaryOp .BitAnd) rAndI := op_and
theorem oOr : OpR X (binaryOp .BitOr) rOrI := op_or
theorem oXor : OpR X (binaryOp .BitXor) rXorI := op_xor
theorem oLt : OpR X (compareOp .Lt) rLtI := op_lt
theorem oLe : OpR X (compareOp .LtE) rLeI := op_le
theorem oGt : OpR X (compareOp .Gt) rGtI := op_gt
theorem oGe : OpR X (compareOp .GtE) rGeI := op_ge
theorem oEq (hu : X.A.units + 64 < cLine) : OpR X (compareOp .Eq) (rEqA X.K) := op_eq.or (op_eqD hu)
theorem oNe (hu : X.A.units + 64 < cLine) : OpR X (compareOp .NotEq) (rNeA X.K) := op_ne.or (op_neD hu)
theorem oIsN : OpR X (compareOp .Is) rIsN := op_isN
theorem oNotN : OpR X (compareOp .IsNot) rNotN := op_notN
theorem uNeg : UnR X (unaryOp .USub) rNegI := un_neg
end
section
variable {te ta tb tc : TE} {Γ : List Sl} {d x y : PyData} {ds es : List PyData} {K : PySem.W.Frag}
theorem rv_I0 {g : Int → Int → V} {i j : Int} {d : PyData} (h : ∀ F, Rp F (g i j) d) : RV (rI0 g) (.int i) (.int j) d := fun F H v u s r1 r2 Q q => by
  rw [r1.int_inv, r2.int_inv]
  exact ⟨i, j, rfl, rfl, q _ F H (.refl s) (h F)⟩
theorem rv_I {c : Int → Int → Prop} {g : Int → Int → V} {i j : Int} {d : PyData} (hc : c i j) (h : ∀ F, Rp F (g i j) d) : RV (rI c g) (.int i) (.int j) d := fun F H v u s r1 r2 Q q => by
  rw [r1.int_inv, r2.int_inv]
  exact ⟨i, j, rfl, rfl, hc, q _ F H (.refl s) (h F)⟩
theorem ev_add {i j : Int} (ha : EvD ta Γ (.int i)) (hb : EvD tb Γ (.int j)) : EvD (tOp (rAddA K) ta tb) Γ (.int (i + j)) :=
  ev_op ha hb fun F H v u s r1 r2 Q q => .inl (rv_I0 (g := fun i j => .int (i + j)) (fun F => .int _) F H v u s r1 r2 Q q)
theorem ev_sub {i j : Int} (ha : EvD ta Γ (.int i)) (hb : EvD tb Γ (.int j)) : EvD (tOp rSubI ta tb) Γ (.int (i - j)) := ev_op ha hb (rv_I0 fun F => .int _)
theorem ev_mul {i j : Int} (ha : EvD ta Γ (.int i)) (hb : EvD tb Γ (.int j)) (hc : CMul i j) : EvD (tOp (rMulA K) ta tb) Γ (.int (i * j)) :=
  ev_op ha hb fun F H v u s r1 r2 Q q => .inl (rv_I (g := fun i j => .int (i * j)) hc (fun F => .int _) F H v u s r1 r2 Q q)
theorem ev_mod {i j : Int} (ha : EvD ta Γ (.int i)) (hb : EvD tb Γ (.int j)) (hc : 0 < j) : EvD (tOp rModI ta tb) Γ (.int (i % j)) := ev_op ha hb (rv_I hc fun F => .int _)
theorem ev_div {i j : Int} (ha : EvD ta Γ (.int i)) (hb : EvD tb Γ (.int j)) (hc : CDiv i j) : EvD (tOp rDivI ta tb) Γ (.int (i / j)) := ev_op ha hb (rv_I hc fun F => .int _)
theorem ev_pow {i j : Int} (ha : EvD ta Γ (.int i)) (hb : EvD tb Γ (.int j)) (hc : CPow i j) : EvD (tOp rPowI ta tb) Γ (.int (i ^ j.toNat)) := ev_op ha hb (rv_I hc fun F => .int _)
theorem ev_shl {i j : Int} (ha : EvD ta Γ (.int i)) (hb : EvD tb Γ (.int j)) (hc : CPow i j) : EvD (tOp rShlI ta tb) Γ (.int (i * 2 ^ j.toNat)) := ev_op ha hb (rv_I hc fun F => .int _)
theorem ev_shr {i j : Int} (ha : EvD ta Γ (.int i)) (hb : EvD tb Γ (.int j)) (hc : 0 ≤ j) : EvD (tOp rShrI ta tb) Γ (.int (i / 2 ^ j.toNat)) := ev_op ha hb (rv_I hc fun F => .int _)
theorem ev_band {i j : Int} (ha : EvD ta Γ (.int i)) (hb : EvD tb Γ (.int j)) : EvD (tOp rAndI ta tb) Γ (.int (Builtin.bitAnd i j)) := ev_op ha hb (rv_I0 fun F => .int _)
theorem ev_bor {i j : Int} (ha : EvD ta Γ (.int i)) (hb : EvD tb Γ (.int j)) : EvD (tOp rOrI ta tb) Γ (.int (Builtin.bitOr i j)) := ev_op ha hb (rv_I0 fun F => .int _)
theorem ev_bxor {i j : Int} (ha : EvD ta Γ (.int i)) (hb : EvD tb Γ (.int j)) : EvD (tOp rXorI ta tb) Γ (.int (Builtin.bitXor i j)) := ev_op ha hb (rv_I0 fun F => .int _)
theorem ev_lt {i j : Int} (ha : EvD ta Γ (.int i)) (hb : EvD tb Γ (.int j)) : EvD (tOp rLtI ta tb) Γ (.bool (decide (i < j))) := ev_op ha hb (rv_I0 fun F => .bl _)
theorem ev_le {i j : Int} (ha : EvD ta Γ (.int i)) (hb : EvD tb Γ (.int j)) : EvD (tOp rLeI ta tb) Γ (.bool (decide (i ≤ j))) := ev_op ha hb (rv_I0 fun F => .bl _)
theorem ev_gt {i j : Int} (ha : EvD ta Γ (.int i)) (hb : EvD tb Γ (.int j)) : EvD (tOp rGtI ta tb) Γ (.bool (decide (j < i))) := ev_op ha hb (rv_I0 fun F => .bl _)
theorem ev_ge {i j : Int} (ha : EvD ta Γ (.int i)) (hb : EvD tb Γ (.int j)) : EvD (tOp rGeI ta tb) Γ (.bool (decide (j ≤ i))) := ev_op ha hb (rv_I0 fun F => .bl _)
theorem ev_neg {i : Int} (ha : EvD ta Γ (.int i)) : EvD (tUn rNegI ta) Γ (.int (-i)) := fun C B F H σ w g Q q =>
  ha C B F H σ w g _ fun v F1 H1 g1 r1 => by
    rw [Rp.int_inv r1]
    exact ⟨i, rfl, q _ F1 H1 g1 (.int _)⟩
theorem ev_eqI {i j : Int} (ha : EvD ta Γ (.int i)) (hb : EvD tb Γ (.int j)) : EvD (tOp (rEqA K) ta tb) Γ (.bool (decide (i = j))) :=
  ev_op ha hb fun F H v u s r1 r2 Q q => by
    rw [r1.int_inv, r2.int_inv]
    refine .inl ⟨rfl, ?_⟩
    rw [show decide (V.int i = V.int j) = decide (i = j) by rw [dec_int, Bool.beq_eq_decide_eq]]
    exact q _ F H (.refl s) (.bl _)
theorem ev_neI {i j : Int} (ha : EvD ta Γ (.int i)) (hb : EvD tb Γ (.int j)) : EvD (tOp (rNeA K) ta tb) Γ (.bool (!decide (i = j))) :=
  ev_op ha hb fun F H v u s r1 r2 Q q => by
    rw [r1.int_inv, r2.int_inv]
    refine .inl ⟨rfl, ?_⟩
    rw [show decide (V.int i = V.int j) = decide (i = j) by rw [dec_int, Bool.beq_eq_decide_eq]]
    exact q _ F H (.refl s) (.bl _)
theorem ev_eqB {i j : Bool} (ha : EvD ta Γ (.bool i)) (hb : EvD tb Γ (.bool j)) : EvD (tOp (rEqA K) ta tb) Γ (.bool (decide (i = j))) :=
  ev_op ha hb fun F H v u s r1 r2 Q q => by
    rw [r1.bl_inv, r2.bl_inv]
    refine .inl ⟨rfl, ?_⟩
    rw [show decide (V.bl i = V.bl j) = decide (i = j) by rw [dec_bl, Bool.beq_eq_decide_eq]]
    exact q _ F H (.refl s) (.bl _)
theorem ev_neB {i j : Bool} (ha : EvD ta Γ (.bool i)) (hb : EvD tb Γ (.bool j)) : EvD (tOp (rNeA K) ta tb) Γ (.bool (!decide (i = j))) :=
  ev_op ha hb fun F H v u s r1 r2 Q q => by
    rw [r1.bl_inv, r2.bl_inv]
    refine .inl ⟨rfl, ?_⟩
    rw [show decide (V.bl i = V.bl j) = decide (i = j) by rw [dec_bl, Bool.beq_eq_decide_eq]]
    exact q _ F H (.refl s) (.bl _)
/-- data of any depth -/
theorem ev_eqD (ha : EvD ta Γ x) (hb : EvD tb Γ y) (h1 : SeqAt.shaped x = true) (h2 : SeqAt.shaped y = true) : EvD (tOp (rEqA K) ta tb) Γ (.bool (PyData.eqv x y)) :=
  ev_op ha hb fun F H v u s r1 r2 Q q => .inr ⟨x, y, (r1.mono s).dp, (r2.mono s).dp, h1, h2, q _ F H (.refl s) (.bl _)⟩
theorem ev_neD (ha : EvD ta Γ x) (hb : EvD tb Γ y) (h1 : SeqAt.shaped x = true) (h2 : SeqAt.shaped y = true) : EvD (tOp (rNeA K) ta tb) Γ (.bool (!PyData.eqv x y)) :=
  ev_op ha hb fun F H v u s r1 r2 Q q => .inr ⟨x, y, (r1.mono s).dp, (r2.mono s).dp, h1, h2, q _ F H (.refl s) (.bl _)⟩
def isNon : PyData → Bool | .none => true | _ => false
theorem Rp.isNon {F : Hp} {v : V} {d : PyData} (r : Rp F v d) : decide (v = .non) = isNon d := by
  cases r <;> rfl
theorem ev_isN (ha : EvD ta Γ x) : EvD (tOp rIsN ta (tC .non)) Γ (.bool (isNon x)) :=
  ev_op ha ev_non fun F H v u s r1 r2 Q q => ⟨r2.non_inv, by rw [r1.isNon]; exact q _ F H (.refl s) (.bl _)⟩
theorem ev_notN (ha : EvD ta Γ x) : EvD (tOp rNotN ta (tC .non)) Γ (.bool (!isNon x)) :=
  ev_op ha ev_non fun F H v u s r1 r2 Q q => ⟨r2.non_inv, by rw [r1.isNon]; exact q _ F H (.refl s) (.bl _)⟩
/-- lists joined -/
theorem en_cat (ha : RdL ta Γ ds) (hb : RdL tb Γ es) (hz : ds.length + es.length ≤ 100000) : EvN (tOp (rAddA K) ta tb) Γ (ds ++ es) :=
  ev_opLL ha hb fun F0 H0 F H p q vs us g0 h1 h2 r1 r2 Q k =>
    .inr (.inl ⟨p, q, vs, us, rfl, rfl, h1, h2, by rw [r1.length, r2.length]; exact size_ok hz, fun l hl =>
      k _ F _ (.newM g0.fh hl) ⟨l, _, rfl, g0.fresh hl, g0.fh.none hl, upd_same, r1.append r2⟩⟩)
/-- tuples joined -/
theorem ev_catT (ha : EvD ta Γ (.tuple ds)) (hb : EvD tb Γ (.tuple es)) (hz : ds.length + es.length ≤ 100000) : EvD (tOp (rAddA K) ta tb) Γ (.tuple (ds ++ es)) :=
  ev_op ha hb fun F H v u s r1 r2 Q q => by
    obtain ⟨a, xs, rfl, h1, q1⟩ := r1.tup_inv
    obtain ⟨b, ys, rfl, h2, q2⟩ := r2.tup_inv
    refine .inr (.inr ⟨a, b, xs, ys, rfl, rfl, SqT.of (s _ _ h1), SqT.of (s _ _ h2), by rw [q1.length, q2.length]; exact size_ok hz, fun e => ?_, fun _ e => ?_, fun _ _ p hp => ?_⟩)
    · subst e; cases q1
      exact q _ F H (.refl s) (.tup h2 q2)
    · subst e; cases q2
      exact q _ F H (.refl s) (by rw [List.append_nil]; exact .tup h1 q1)
    · exact q _ _ _ (.new s hp) (.tup upd_same ((q1.append q2).mono (Sub.new (s.none hp))))
/-- a tuple, several times -/
theorem ev_repT {k : Int} (ha : EvD ta Γ (.tuple ds)) (hb : EvD tb Γ (.int k)) (hn : ds ≠ []) (h1 : 2 ≤ k) (h2 : k ≤ 1000) (hz : ds.length ≤ 1000) : EvD (tOp (rMulA K) ta tb) Γ (.tuple (List.replicate k.toNat ds).flatten) :=
  ev_op ha hb fun F H v u s r1 r2 Q q => by
    obtain ⟨a, xs, rfl, e1, q1⟩ := r1.tup_inv
    rw [r2.int_inv]
    refine .inr (.inr (.inl ⟨a, k, xs, rfl, rfl, SqT.of (s _ _ e1), fun e => hn ?_, h1, h2, by rw [q1.length]; exact hz, fun p hp => ?_⟩))
    · subst e; cases q1; rfl
    · refine q _ _ _ (.new s hp) (.tup upd_same (RpAll.mono (Sub.new (s.none hp)) ?_))
      generalize k.toNat = n
      induction n with
      | zero => exact .nil
      | succ n ih => rw [List.replicate_succ, List.replicate_succ, List.flatten_cons, List.flatten_cons]; exact q1.append ih
/-- .. any number of times -/
theorem ev_repA {k : Nat} (ha : EvD ta Γ (.tuple ds)) (hb : EvD tb Γ (.int (k : Int))) (hn : ds ≠ []) (h2 : k ≤ 1000) (hz : ds.length ≤ 1000) : EvD (tOp (rMulA K) ta tb) Γ (.tuple (List.replicate k ds).flatten) := by
  by_cases h : 2 ≤ k
  · have := ev_repT (K := K) ha hb hn (by omega) (by omega) hz
    rwa [Int.toNat_natCast] at this
  · exact ev_op ha hb fun F H v u s r1 r2 Q q => by
      obtain ⟨a, xs, rfl, e1, q1⟩ := r1.tup_inv
      rw [r2.int_inv]
      refine .inr (.inr (.inr ⟨a, k, xs, rfl, rfl, SqT.of (s _ _ e1), fun e => hn (by subst e; cases q1; rfl), ?_⟩))
      match k, h with
      | 0, _ => exact .inr ⟨rfl, fun p hp => q _ _ _ (.new s hp) (.tup upd_same .nil)⟩
      | 1, _ => exact .inl ⟨rfl, q _ F H (.refl s) (by show Rp F _ (.tuple (ds ++ [])); rw [List.append_nil]; exact .tup e1 q1)⟩
      | n + 2, h => exact absurd (by omega) h
end

/-! ### and, or, not, tests -/
section
variable {te ta tb tc : TE} {Γ : List Sl} {d x y : PyData} {t u : TT} {a b : Bool} {K : PySem.W.Frag}
theorem et_B (h : EvD te Γ (.bool b)) : EvT (tB te) Γ b := fun C B F H σ w g Q q => h C B F H σ w g _ fun v F1 H1 g1 r1 => ⟨b, Rp.bl_inv r1, q F1 H1 g1⟩
theorem et_test (h : EvD te Γ (.bool b)) : EvT (tTest te) Γ b := fun C B F H σ w g Q q => h C B F H σ w g _ fun v F1 H1 g1 r1 => ⟨b, Rp.bl_inv r1, q F1 H1 g1⟩
theorem et_not (h : EvT t Γ a) : EvT (tNot t) Γ (!a) := fun C B F H σ w g Q q => h C B F H σ w g _ fun F1 H1 g1 => q F1 H1 g1
theorem et_yes : EvT tYes Γ true := fun C B F H σ w g Q q => q F H (.refl w.sub)
theorem et_and (h1 : EvT t Γ a) (h2 : a = true → EvT u Γ b) : EvT (tAnd t u) Γ (a && b) := fun C B F H σ w g Q q => h1 C B F H σ w g _ fun F1 H1 g1 => by
  cases a with
  | true =>
    show u σ H1 Q
    exact h2 rfl C B F1 H1 σ (w.grow g1) (g.grow g1.weak) Q fun F2 H2 g2 => q F2 H2 (g1.trans g2)
  | false =>
    show Q false H1
    exact q F1 H1 g1
theorem et_or (h1 : EvT t Γ a) (h2 : a = false → EvT u Γ b) : EvT (tOr t u) Γ (a || b) := fun C B F H σ w g Q q => h1 C B F H σ w g _ fun F1 H1 g1 => by
  cases a with
  | true =>
    show Q true H1
    exact q F1 H1 g1
  | false =>
    show u σ H1 Q
    exact h2 rfl C B F1 H1 σ (w.grow g1) (g.grow g1.weak) Q fun F2 H2 g2 => q F2 H2 (g1.trans g2)
theorem ev_andV (h1 : EvD ta Γ (.bool a)) (h2 : a = true → EvD tb Γ (.bool b)) : EvD (tAndV ta tb) Γ (.bool (a && b)) := fun C B F H σ w g Q q => h1 C B F H σ w g _ fun v F1 H1 g1 r1 => ⟨a, Rp.bl_inv r1, by
  cases a with
  | true =>
    show tb σ H1 Q
    exact h2 rfl C B F1 H1 σ (w.grow g1) (g.grow g1.weak) Q fun v F2 H2 g2 r2 => q v F2 H2 (g1.trans g2) r2
  | false =>
    show Q (.bl false) H1
    exact q _ F1 H1 g1 (.bl _)⟩
theorem ev_orV (h1 : EvD ta Γ (.bool a)) (h2 : a = false → EvD tb Γ (.bool b)) : EvD (tOrV ta tb) Γ (.bool (a || b)) := fun C B F H σ w g Q q => h1 C B F H σ w g _ fun v F1 H1 g1 r1 => ⟨a, Rp.bl_inv r1, by
  cases a with
  | true =>
    show Q (.bl true) H1
    exact q _ F1 H1 g1 (.bl _)
  | false =>
    show tb σ H1 Q
    exact h2 rfl C B F1 H1 σ (w.grow g1) (g.grow g1.weak) Q fun v F2 H2 g2 r2 => q v F2 H2 (g1.trans g2) r2⟩
theorem ev_notV (h1 : EvD ta Γ (.bool a)) : EvD (tNotV ta) Γ (.bool (!a)) := fun C B F H σ w g Q q => h1 C B F H σ w g _ fun v F1 H1 g1 r1 => ⟨a, Rp.bl_inv r1, q _ F1 H1 g1 (.bl _)⟩
theorem ev_if (h : EvT t Γ b) (h1 : b = true → EvD ta Γ x) (h2 : b = false → EvD tb Γ y) : EvD (tIf t ta tb) Γ (if b = true then x else y) := fun C B F H σ w g Q q => h C B F H σ w g _ fun F1 H1 g1 => by
  cases b with
  | true =>
    show ta σ H1 Q
    exact h1 rfl C B F1 H1 σ (w.grow g1) (g.grow g1.weak) Q fun v F2 H2 g2 r2 => q v F2 H2 (g1.trans g2) r2
  | false =>
    show tb σ H1 Q
    exact h2 rfl C B F1 H1 σ (w.grow g1) (g.grow g1.weak) Q fun v F2 H2 g2 r2 => q v F2 H2 (g1.trans g2) r2
/-- a op b op c -/
theorem ev_chain {r r' : R2} {z : PyData} (ha : EvD ta Γ x) (hb : EvD tb Γ y) (hr : RV r x y (.bool a)) (hc : a = true → EvD tc Γ z) (hr' : a = true → RV r' y z (.bool b)) : EvD (tChain r r' ta tb tc) Γ (.bool (a && b)) := fun C B F H σ w g Q q =>
  ha C B F H σ w g _ fun v F1 H1 g1 r1 => hb C B F1 H1 σ (w.grow g1) (g.grow g1.weak) _ fun u F2 H2 g2 r2 =>
    hr F2 H2 v u g2.fh (r1.mono g2.ff) r2 _ fun z' F3 H3 g3 r3 => ⟨a, Rp.bl_inv r3, by
      have w3 := ((w.grow g1).grow g2).grow g3
      have e3 : Gm C B F3 H3 σ Γ := ((g.grow g1.weak).grow g2.weak).grow g3.weak
      cases a with
      | true =>
        show tc σ H3 _
        exact hc rfl C B F3 H3 σ w3 e3 _ fun z4 F4 H4 g4 r4 => hr' rfl F4 H4 u z4 g4.fh ((r2.mono g3.ff).mono g4.ff) r4 Q fun z5 F5 H5 g5 r5 => q z5 F5 H5 ((((g1.trans g2).trans g3).trans g4).trans g5) r5
      | false =>
        show Q (.bl false) H3
        exact q _ F3 H3 ((g1.trans g2).trans g3) (.bl _)⟩
theorem rv_le {i j : Int} : RV rLeI (.int i) (.int j) (.bool (decide (i ≤ j))) := rv_I0 fun F => .bl _
theorem rv_lt {i j : Int} : RV rLtI (.int i) (.int j) (.bool (decide (i < j))) := rv_I0 fun F => .bl _

/-! ### arguments, displays -/
theorem ea_nil : EvA tNil Γ [] := fun C B F H σ w g Q q => q [] F H (.refl w.sub) .nil
theorem ea_cons {tr : TA} {ds : List PyData} (h : EvD te Γ d) (hr : EvA tr Γ ds) : EvA (tCons te tr) Γ (d :: ds) := fun C B F H σ w g Q q =>
  h C B F H σ w g _ fun v F1 H1 g1 r1 => hr C B F1 H1 σ (w.grow g1) (g.grow g1.weak) _ fun vs F2 H2 g2 r2 => q _ F2 H2 (g1.trans g2) (.cons (r1.mono g2.ff) r2)
theorem ev_tup {ts : TA} {ds : List PyData} (h : EvA ts Γ ds) (hz : ds.length ≤ 100000) : EvD (tTup ts) Γ (.tuple ds) := fun C B F H σ w g Q q =>
  h C B F H σ w g _ fun vs F1 H1 g1 r1 => ⟨by rw [r1.length]; exact size_ok hz, fun p hp => q _ _ _ (g1.trans (.new g1.fh hp)) (.tup upd_same (r1.mono (Sub.new (g1.fh.none hp))))⟩
theorem en_lst {ts : TA} {ds : List PyData} (h : EvA ts Γ ds) (hz : ds.length ≤ 100000) : EvN (tLst ts) Γ ds := fun C B F H σ w g Q q =>
  h C B F H σ w g _ fun vs F1 H1 g1 r1 => ⟨by rw [r1.length]; exact size_ok hz, fun p hp => q _ F1 _ (g1.trans (.newM g1.fh hp)) ⟨p, vs, rfl, g1.fresh hp, g1.fh.none hp, upd_same, r1⟩⟩
end
end Eh

namespace Eh
open PySem PySem.Spec PyProof.Rows L2

/-! ### what a def is to do -/
inductive Out where
  | ok (d : PyData)
  | err (c : Addr) (f : Option (List (Str × V)))
def XcOk (c : Addr) (f : Option (List (Str × V))) (cv : Value) (dd : Option Addr) (H : Hp) : Prop :=
  cv = .ref c ∧ match f with
    | none => dd = none
    | some fs => ∃ p, dd = some p ∧ H p = some (.xd fs)
def spR (R : List PyData → Out → Prop) : Sp := fun vs H Q E => ∃ F ds o, Sub F H ∧ RpAll F vs ds ∧ R ds o ∧
  (∀ d, o = .ok d → ∀ v F' H', Grow [] F H F' H' → Rp F' v d → Q v H') ∧
  (∀ c f, o = .err c f → ∀ cv dd F' H', Grow [] F H F' H' → XcOk c f cv dd H' → E cv dd H')
/-- .. that hands back a new list -/
def spN (R : List PyData → List PyData → Prop) : Sp := fun vs H Q _ => ∃ F ds es, Sub F H ∧ RpAll F vs ds ∧ R ds es ∧
  ∀ p us F' H', Grow [] F H F' H' → H p = none → F' p = none → H' p = some (.lst us) → RpAll F' us es → Q (.ref p) H'
def EvX (te : TE) (Γ : List Sl) (E : XK) (c : Addr) (f : Option (List (Str × V))) : Prop :=
  ∀ (C : Pc) (B F H : Hp) (σ : L2.St), Wd C F H → Gm C B F H σ Γ → ∀ Q : VK, (∀ cv dd F' H', Grow [] F H F' H' → XcOk c f cv dd H' → E cv dd H') → te σ H Q
section
variable {te : TE} {ta : TA} {Γ : List Sl} {d x y : PyData} {ds es : List PyData} {R : List PyData → Out → Prop} {E : XK} {K : PySem.W.Frag}
theorem ev_call (h : EvA ta Γ ds) (hR : R ds (.ok d)) : EvD (tCall (spR R) [] E ta) Γ d := fun C B F H σ w g Q q =>
  h C B F H σ w g _ fun vs F1 H1 g1 r1 => ⟨F1, ds, .ok d, g1.fh, by rw [List.append_nil]; exact r1, hR, fun d' e v F2 H2 g2 r2 => by cases e; exact q v F2 H2 (g1.trans g2) r2, fun c f e => nomatch e⟩
theorem ex_call {c : Addr} {f : Option (List (Str × V))} (h : EvA ta Γ ds) (hR : R ds (.err c f)) : EvX (tCall (spR R) [] E ta) Γ E c f := fun C B F H σ w g Q q =>
  h C B F H σ w g _ fun vs F1 H1 g1 r1 => ⟨F1, ds, .err c f, g1.fh, by rw [List.append_nil]; exact r1, hR, (fun d' e => nomatch e), fun c' f' e cv dd F2 H2 g2 x => by cases e; exact q cv dd F2 H2 (g1.trans g2) x⟩
theorem en_call {R : List PyData → List PyData → Prop} (h : EvA ta Γ ds) (hR : R ds es) : EvN (tCall (spN R) [] E ta) Γ es := fun C B F H σ w g Q q =>
  h C B F H σ w g _ fun vs F1 H1 g1 r1 => ⟨F1, ds, es, g1.fh, by rw [List.append_nil]; exact r1, hR, fun p us F2 H2 g2 n f l r => q _ F2 H2 (g1.trans g2) ⟨p, us, rfl, g1.fresh n, f, l, r⟩⟩
end

/-! ### built-ins -/
def rLenA (K : PySem.W.Frag) : List V → Hp → VK → Prop := fun xs H Q => (∃ p ys, xs = [.ref p] ∧ (SqL K H p ys ∨ SqT K H p ys) ∧ Q (.int ys.length) H) ∨ ∃ z, xs = [.str z] ∧ z.length ≤ sizeLine ∧ Q (.int z.length) H
def rListA (K : PySem.W.Frag) : List V → Hp → VK → Prop := fun xs H Q => ∃ p ys, xs = [.ref p] ∧ (SqL K H p ys ∨ SqT K H p ys) ∧ ∀ l, H l = none → Q (.ref l) (upd H l (.lst ys))
def rIntA : List V → Hp → VK → Prop := fun xs H Q => (∃ i, xs = [.int i] ∧ Q (.int i) H) ∨ ∃ k, xs = [.bl k] ∧ Q (.int (if k then 1 else 0)) H
def rMin2 : List V → Hp → VK → Prop := fun xs H Q => ∃ i j, xs = [.int i, .int j] ∧ Q (.int (if j < i then j else i)) H
def rMax2 : List V → Hp → VK → Prop := fun xs H Q => ∃ i j, xs = [.int i, .int j] ∧ Q (.int (if j > i then j else i)) H
def rAbsA : List V → Hp → VK → Prop := fun xs H Q => ∃ i, xs = [.int i] ∧ Q (.int (if i < 0 then -i else i)) H
def rStrI : List V → Hp → VK → Prop := fun xs H Q => ∃ i, xs = [.int i] ∧ i.natAbs.log2 < 1920 ∧ Q (.str (toString i)) H
section
variable {X : Cx}
theorem cLen : CallR X (.builtin "len") (rLenA X.K) := call_len_seq.or call_len_str
theorem cList : CallR X (.type "list") (rListA X.K) := call_list_of
theorem cInt : CallR X (.type "int") rIntA := call_int1
theorem cMin2 (hc : X.calm = true) : CallR X (.builtin "min") rMin2 := call_min2 hc
theorem cMax2 (hc : X.calm = true) : CallR X (.builtin "max") rMax2 := call_max2 hc
theorem cAbs : CallR X (.builtin "abs") rAbsA := call_abs
theorem cStr : CallR X (.type "str") rStrI := call_str_int
end
section
variable {te ta tb : TE} {Γ : List Sl} {d x y : PyData} {ds es : List PyData} {K : PySem.W.Frag} {ts : TA}
theorem ev_len (h : RdS ta Γ ds) : EvD (tCB (rLenA K) (tCons ta tNil)) Γ (.int ds.length) := fun C B F H σ w g Q q =>
  h C B F H σ w g _ fun v F1 H1 g1 ⟨p, vs, e, l, r⟩ => by
    subst e
    refine .inl ⟨p, vs, rfl, l.imp SqL.of SqT.of, ?_⟩
    rw [r.length]
    exact q _ F1 H1 g1 (.int _)
theorem ev_lenS {z : Str} (h : EvD ta Γ (.str z)) (hz : z.length ≤ 100000) : EvD (tCB (rLenA K) (tCons ta tNil)) Γ (.int z.length) := fun C B F H σ w g Q q =>
  h C B F H σ w g _ fun v F1 H1 g1 r => by
    rw [Rp.str_inv r]
    exact .inr ⟨z, rfl, size_ok hz, q _ F1 H1 g1 (.int _)⟩
theorem en_list (h : RdS ta Γ ds) : EvN (tCB (rListA K) (tCons ta tNil)) Γ ds := fun C B F H σ w g Q q =>
  h C B F H σ w g _ fun v F1 H1 g1 ⟨p, vs, e, l, r⟩ => by
    subst e
    exact ⟨p, vs, rfl, l.imp SqL.of SqT.of, fun l hl => q _ F1 _ (g1.trans (.newM g1.fh hl)) ⟨l, vs, rfl, g1.fresh hl, g1.fh.none hl, upd_same, r⟩⟩
theorem ev_tuple (h : RdS ta Γ ds) (hT : EvD ta Γ (.tuple ds) ∨ RdL ta Γ ds) : EvD (tThen ta (kTup K)) Γ (.tuple ds) := by
  rcases hT with hT | hT
  · exact fun C B F H σ w g Q q => hT C B F H σ w g _ fun v F1 H1 g1 r1 => by
      obtain ⟨a, xs, rfl, f, ra⟩ := Rp.tup_inv r1
      exact .inr ⟨a, xs, rfl, SqT.of (g1.fh _ _ f), q _ F1 H1 g1 r1⟩
  · exact fun C B F H σ w g Q q => hT C B F H σ w g _ fun v F1 H1 g1 ⟨p, vs, e, l, r⟩ => by
      subst e
      exact .inl ⟨p, vs, rfl, SqL.of l, fun t ht => q _ _ _ (g1.trans (.new g1.fh ht)) (.tup upd_same (r.mono (Sub.new (g1.fh.none ht))))⟩
theorem ev_tupleL (h : RdL ta Γ ds) : EvD (tThen ta (kTup K)) Γ (.tuple ds) := ev_tuple h.s (.inr h)
theorem ev_tupleT (h : EvD ta Γ (.tuple ds)) : EvD (tThen ta (kTup K)) Γ (.tuple ds) := ev_tuple h.rt (.inl h)
theorem ev_cint {i : Int} (h : EvD ta Γ (.int i)) : EvD (tCB rIntA (tCons ta tNil)) Γ (.int i) := fun C B F H σ w g Q q =>
  h C B F H σ w g _ fun v F1 H1 g1 r => by
    rw [Rp.int_inv r]
    exact .inl ⟨i, rfl, q _ F1 H1 g1 (.int _)⟩
theorem ev_cintB {b : Bool} (h : EvD ta Γ (.bool b)) : EvD (tCB rIntA (tCons ta tNil)) Γ (.int (if b then 1 else 0)) := fun C B F H σ w g Q q =>
  h C B F H σ w g _ fun v F1 H1 g1 r => by
    rw [Rp.bl_inv r]
    exact .inr ⟨b, rfl, q _ F1 H1 g1 (.int _)⟩
theorem ev_min2 {i j : Int} (ha : EvD ta Γ (.int i)) (hb : EvD tb Γ (.int j)) : EvD (tCB rMin2 (tCons ta (tCons tb tNil))) Γ (.int (if j < i then j else i)) := fun C B F H σ w g Q q =>
  ha C B F H σ w g _ fun v F1 H1 g1 r1 => hb C B F1 H1 σ (w.grow g1) (g.grow g1.weak) _ fun u F2 H2 g2 r2 => by
    rw [Rp.int_inv r1, Rp.int_inv r2]
    exact ⟨i, j, rfl, q _ F2 H2 (g1.trans g2) (.int _)⟩
theorem ev_max2 {i j : Int} (ha : EvD ta Γ (.int i)) (hb : EvD tb Γ (.int j)) : EvD (tCB rMax2 (tCons ta (tCons tb tNil))) Γ (.int (if j > i then j else i)) := fun C B F H σ w g Q q =>
  ha C B F H σ w g _ fun v F1 H1 g1 r1 => hb C B F1 H1 σ (w.grow g1) (g.grow g1.weak) _ fun u F2 H2 g2 r2 => by
    rw [Rp.int_inv r1, Rp.int_inv r2]
    exact ⟨i, j, rfl, q _ F2 H2 (g1.trans g2) (.int _)⟩
theorem ev_abs {i : Int} (h : EvD ta Γ (.int i)) : EvD (tCB rAbsA (tCons ta tNil)) Γ (.int (if i < 0 then -i else i)) := fun C B F H σ w g Q q =>
  h C B F H σ w g _ fun v F1 H1 g1 r => by
    rw [Rp.int_inv r]
    exact ⟨i, rfl, q _ F1 H1 g1 (.int _)⟩
theorem ev_cstr {i : Int} (h : EvD ta Γ (.int i)) (hi : i.natAbs.log2 < 1920) : EvD (tCB rStrI (tCons ta tNil)) Γ (.str (toString i)) := fun C B F H σ w g Q q =>
  h C B F H σ w g _ fun v F1 H1 g1 r => by
    rw [Rp.int_inv r]
    exact ⟨i, rfl, hi, q _ F1 H1 g1 (.str _)⟩
theorem ev_all {bs : List Bool} (h : RdL ta Γ (bs.map .bool)) : EvD (tCB (rAll K) (tCons ta tNil)) Γ (.bool (bs.all id)) := fun C B F H σ w g Q q =>
  h C B F H σ w g _ fun v F1 H1 g1 ⟨p, vs, e, l, r⟩ => by
    subst e
    exact ⟨p, bs, rfl, SqL.of (by rw [l, r.bls]), q _ F1 H1 g1 (.bl _)⟩
theorem ev_any {bs : List Bool} (h : RdL ta Γ (bs.map .bool)) : EvD (tCB (rAny K) (tCons ta tNil)) Γ (.bool (bs.any id)) := fun C B F H σ w g Q q =>
  h C B F H σ w g _ fun v F1 H1 g1 ⟨p, vs, e, l, r⟩ => by
    subst e
    exact ⟨p, bs, rfl, SqL.of (by rw [l, r.bls]), q _ F1 H1 g1 (.bl _)⟩
theorem ev_sumL {ns : List Int} (h : RdL ta Γ (ns.map .int)) : EvD (tCB (rSum K) (tCons ta tNil)) Γ (.int ns.sum) := fun C B F H σ w g Q q =>
  h C B F H σ w g _ fun v F1 H1 g1 ⟨p, vs, e, l, r⟩ => by
    subst e
    exact ⟨p, ns, rfl, SqL.of (by rw [l, r.ints]), q _ F1 H1 g1 (.int _)⟩
theorem ev_minL {ns : List Int} {m : Int} (h : RdL ta Γ (ns.map .int)) (h1 : m ∈ ns) (h2 : ∀ k ∈ ns, m ≤ k) : EvD (tCB (rMin K) (tCons ta tNil)) Γ (.int m) := fun C B F H σ w g Q q =>
  h C B F H σ w g _ fun v F1 H1 g1 ⟨p, vs, e, l, r⟩ => by
    subst e
    refine ⟨p, ns, rfl, SqL.of (by rw [l, r.ints]), List.length_pos_of_mem h1, fun k hk hl => ?_⟩
    have e : k = m := Int.le_antisymm (hl m h1) (h2 k hk)
    subst e
    exact q _ F1 H1 g1 (.int _)
theorem ev_maxL {ns : List Int} {m : Int} (h : RdL ta Γ (ns.map .int)) (h1 : m ∈ ns) (h2 : ∀ k ∈ ns, k ≤ m) : EvD (tCB (rMax K) (tCons ta tNil)) Γ (.int m) := fun C B F H σ w g Q q =>
  h C B F H σ w g _ fun v F1 H1 g1 ⟨p, vs, e, l, r⟩ => by
    subst e
    refine ⟨p, ns, rfl, SqL.of (by rw [l, r.ints]), List.length_pos_of_mem h1, fun k hk hl => ?_⟩
    have e : k = m := Int.le_antisymm (h2 k hk) (hl m h1)
    subst e
    exact q _ F1 H1 g1 (.int _)

/-! ### subscripts, in, slices -/
theorem ev_ix {i : Int} (ha : RdS ta Γ ds) (hb : EvD tb Γ (.int i)) (h : atI ds i = some d) : EvD (tOp (rIx K) ta tb) Γ d :=
  ev_opSD ha hb fun F0 H0 F H p vs u g0 hp r ru Q q => by
    rw [Rp.int_inv ru]
    obtain ⟨j, e1, e2⟩ : ∃ j, ixN ds.length i = some j ∧ ds[j]? = some d := by
      unfold atI at h
      cases e : ixN ds.length i with
      | none => rw [e] at h; cases h
      | some j => rw [e] at h; exact ⟨j, rfl, h⟩
    obtain ⟨v, h1, h2⟩ := r.get e2
    have a : atI vs i = some v := by unfold atI; rw [r.length, e1]; exact h1
    rcases hp with hp | hp
    · exact .inl ⟨p, vs, i, v, rfl, rfl, SqL.of hp, a, q v F H (.refl g0.fh) h2⟩
    · exact .inr (.inl ⟨p, vs, i, v, rfl, rfl, SqT.of hp, a, q v F H (.refl g0.fh) h2⟩)
theorem ev_ixN {n : Nat} (ha : RdS ta Γ ds) (hb : EvD tb Γ (.int (n : Int))) (h : ds[n]? = some d) : EvD (tOp (rIx K) ta tb) Γ d := ev_ix ha hb (atI_nat h)
def flatD : PyData → Bool | .list _ => false | .tuple _ => false | .dict _ => false | _ => true
theorem Rp.flat {F : Hp} {v : V} (r : Rp F v d) (h : flatD d = true) : flatV v = true := by
  cases r with
  | lst _ _ => cases h
  | tup _ _ => cases h
  | _ => rfl
theorem RpAll.flatD {F : Hp} {vs : List V} (r : RpAll F vs ds) (h : ds.all flatD = true) : vs.all flatV = true := by
  induction ds generalizing vs with
  | nil => cases r; rfl
  | cons d ds ih => cases r with | cons r1 r2 => rw [List.all_cons, Bool.and_eq_true] at h ⊢; exact ⟨r1.flat h.1, ih r2 h.2⟩

theorem eqV_eqv {F : Hp} {v u : V} {x y : PyData} (r : Rp F v x) (q : Rp F u y) (h : flatD x = true) (k : flatD y = true) : eqV v u = PyData.eqv x y := by
  cases r with
  | lst _ _ => cases h
  | tup _ _ => cases h
  | _ => cases q with
    | lst _ _ => cases k
    | tup _ _ => cases k
    | _ => rfl
theorem inV_eqv {F : Hp} {v : V} {vs : List V} (r : Rp F v x) (q : RpAll F vs ds) (h : flatD x = true) (k : ds.all flatD = true) : inV v vs = ds.any fun z => PyData.eqv z x := by
  unfold inV
  induction ds generalizing vs with
  | nil => cases q; rfl
  | cons d ds ih =>
    cases q with
    | cons r1 r2 =>
      rw [List.all_cons, Bool.and_eq_true] at k
      rw [List.any_cons, List.any_cons, eqV_eqv r1 r k.1 h, ih r2 k.2]
theorem ev_inF (ha : EvD ta Γ x) (hb : RdS tb Γ ds) (h : flatD x = true) (k : ds.all flatD = true) : EvD (tOp (rIn K false) ta tb) Γ (.bool (ds.any fun z => PyData.eqv z x)) :=
  ev_opDS ha hb fun F0 H0 F H v p us g0 rv hp r Q q => by
    refine ⟨p, us, rfl, hp.imp SqL.of SqT.of, rv.flat h, r.flatD k, ?_⟩
    rw [inV_eqv rv r h k]
    exact q _ F H (.refl g0.fh) (.bl _)
theorem ev_niF (ha : EvD ta Γ x) (hb : RdS tb Γ ds) (h : flatD x = true) (k : ds.all flatD = true) : EvD (tOp (rIn K true) ta tb) Γ (.bool (!(ds.any fun z => PyData.eqv z x))) :=
  ev_opDS ha hb fun F0 H0 F H v p us g0 rv hp r Q q => by
    refine ⟨p, us, rfl, hp.imp SqL.of SqT.of, rv.flat h, r.flatD k, ?_⟩
    rw [inV_eqv rv r h k]
    exact q _ F H (.refl g0.fh) (.bl _)
theorem flat_ints (ns : List Int) : (ns.map PyData.int).all flatD = true := by
  induction ns with
  | nil => rfl
  | cons n ns ih => exact ih
theorem any_ints (ns : List Int) (k : Int) : ((ns.map PyData.int).any fun z => PyData.eqv z (.int k)) = decide (k ∈ ns) := by
  induction ns with
  | nil => rfl
  | cons n ns ih =>
    rw [List.map_cons, List.any_cons, ih]
    show ((n == k) || decide (k ∈ ns)) = _
    by_cases h : k = n
    · subst h; simp
    · simp [h, Ne.symm h]
theorem flat_nats (ns : List Nat) : (ns.map fun n : Nat => PyData.int n).all flatD = true := by
  induction ns with
  | nil => rfl
  | cons n ns ih => exact ih
theorem any_nats (ns : List Nat) (k : Nat) : ((ns.map fun n : Nat => PyData.int n).any fun z => PyData.eqv z (.int k)) = decide (k ∈ ns) := by
  induction ns with
  | nil => rfl
  | cons n ns ih =>
    rw [List.map_cons, List.any_cons, ih]
    show (((n : Int) == (k : Int)) || decide (k ∈ ns)) = _
    by_cases h : k = n
    · subst h; simp
    · have h2 : ((n : Int) == (k : Int)) = false := beq_eq_false_iff_ne.mpr (by omega)
      rw [h2]; simp [h]
theorem ev_inI {ns : List Int} {k : Int} (ha : EvD ta Γ (.int k)) (hb : RdS tb Γ (ns.map .int)) : EvD (tOp (rIn K false) ta tb) Γ (.bool (decide (k ∈ ns))) := (ev_inF ha hb rfl (flat_ints ns)).is (by rw [any_ints])
theorem ev_niI {ns : List Int} {k : Int} (ha : EvD ta Γ (.int k)) (hb : RdS tb Γ (ns.map .int)) : EvD (tOp (rIn K true) ta tb) Γ (.bool (!decide (k ∈ ns))) := (ev_niF ha hb rfl (flat_ints ns)).is (by rw [any_ints])
theorem ev_inN {ns : List Nat} {k : Nat} (ha : EvD ta Γ (.int k)) (hb : RdS tb Γ (ns.map fun n : Nat => .int n)) : EvD (tOp (rIn K false) ta tb) Γ (.bool (decide (k ∈ ns))) := (ev_inF ha hb rfl (flat_nats ns)).is (by rw [any_nats])
theorem ev_niN {ns : List Nat} {k : Nat} (ha : EvD ta Γ (.int k)) (hb : RdS tb Γ (ns.map fun n : Nat => .int n)) : EvD (tOp (rIn K true) ta tb) Γ (.bool (!decide (k ∈ ns))) := (ev_niF ha hb rfl (flat_nats ns)).is (by rw [any_nats])
/-- slices -/
def EvO (to : TO) (Γ : List Sl) (o : Option Int) : Prop :=
  ∀ (C : Pc) (B F H : Hp) (σ : L2.St), Wd C F H → Gm C B F H σ Γ → ∀ Q : Option Int → Hp → Prop, (∀ F' H', Grow [] F H F' H' → Q o H') → to σ H Q
theorem eo_none : EvO tNoPart Γ none := fun C B F H σ w g Q q => q F H (.refl w.sub)
theorem eo_some {i : Int} (h : EvD te Γ (.int i)) : EvO (tPart te) Γ (some i) := fun C B F H σ w g Q q => h C B F H σ w g _ fun v F1 H1 g1 r => ⟨i, Rp.int_inv r, q F1 H1 g1⟩
def cutD {α : Type} (xs : List α) (lo hi : Option Int) : List α := (xs.drop (HT.sIx xs.length 0 lo)).take (HT.sIx xs.length xs.length hi - HT.sIx xs.length 0 lo)
def rSlB (K : PySem.W.Frag) : V → Option Int → Option Int → Hp → VK → Prop := fun x lo hi H Q => rSlL K x lo hi H Q ∨ rSlA K x lo hi H Q
theorem sSeq {X : Cx} : SlR X (rSlB X.K) := sl_list.or sl_tupA
theorem RpAll.cut {F : Hp} {vs : List V} (r : RpAll F vs ds) (lo hi : Option Int) : RpAll F (cutV vs lo hi) (cutD ds lo hi) := by
  unfold cutV cutD
  rw [r.length]
  exact (r.drop _).take _
theorem cut_whole {α : Type} {xs : List α} {lo hi : Option Int} (h : HT.sIx xs.length 0 lo = 0 ∧ HT.sIx xs.length xs.length hi = xs.length) : cutD xs lo hi = xs := by
  unfold cutD
  rw [h.1, h.2, List.drop_zero, Nat.sub_zero, List.take_length]
theorem ev_slT {tl th : TO} {lo hi : Option Int} (h : EvD te Γ (.tuple ds)) (hl : EvO tl Γ lo) (hh : EvO th Γ hi) : EvD (tSl (rSlB K) te tl th) Γ (.tuple (cutD ds lo hi)) := fun C B F H σ w g Q q =>
  h C B F H σ w g _ fun v F1 H1 g1 r1 => hl C B F1 H1 σ (w.grow g1) (g.grow g1.weak) _ fun F2 H2 g2 => hh C B F2 H2 σ ((w.grow g1).grow g2) ((g.grow g1.weak).grow g2.weak) _ fun F3 H3 g3 => by
    have r3 := (Rp.mono g2.ff r1).mono g3.ff
    obtain ⟨a, xs, rfl, f, ra⟩ := Rp.tup_inv r3
    have gg := (g1.trans g2).trans g3
    refine .inr ⟨a, xs, rfl, SqT.of (g3.fh _ _ f), fun hw => ?_, fun _ p hp => ?_⟩
    · rw [ra.length] at hw
      exact q _ F3 H3 gg (by rw [cut_whole hw]; exact r3)
    · exact q _ _ _ (gg.trans (.new g3.fh hp)) (.tup upd_same ((ra.cut lo hi).mono (Sub.new (g3.fh.none hp))))
theorem en_slL {tl th : TO} {lo hi : Option Int} (h : RdL te Γ ds) (hl : EvO tl Γ lo) (hh : EvO th Γ hi) : EvN (tSl (rSlB K) te tl th) Γ (cutD ds lo hi) := fun C B F H σ w g Q q =>
  h C B F H σ w g _ fun v F1 H1 g1 ⟨p, vs, e, l, r⟩ => hl C B F1 H1 σ (w.grow g1) (g.grow g1.weak) _ fun F2 H2 g2 => hh C B F2 H2 σ ((w.grow g1).grow g2) ((g.grow g1.weak).grow g2.weak) _ fun F3 H3 g3 => by
    subst e
    have gg := (g1.trans g2).trans g3
    refine .inl ⟨p, vs, rfl, SqL.of (g3.sub _ _ (g2.sub _ _ l)), fun q' hq => ?_⟩
    exact q _ F3 _ (gg.trans (.newM g3.fh hq)) ⟨q', _, rfl, gg.fresh hq, g3.fh.none hq, upd_same, ((r.mono g2.ff).mono g3.ff).cut lo hi⟩
end

/-! ### what a loop walks -/
def WkH (J : It) (F1 H1 : Hp) (ds : List PyData) : Prop := ∀ F2 H2, Grow [] F1 H1 F2 H2 →
  (∀ i d, ds[i]? = some d → J.go i H2 ∧ ∀ x H', J.yld i H2 x H' → ∃ F', Grow [] F2 H2 F' H' ∧ Rp F' x d) ∧ J.stop ds.length H2
def WkF (J : It) (F1 : Hp) (ds : List PyData) : Prop := ∀ F2 H2, Sub F1 F2 → Sub F2 H2 →
  (∀ i d, ds[i]? = some d → J.go i H2 ∧ ∀ x H', J.yld i H2 x H' → ∃ F', Grow [] F2 H2 F' H' ∧ Rp F' x d) ∧ J.stop ds.length H2
def IterH (wi : TI) (Γ : List Sl) (ds : List PyData) : Prop :=
  ∀ (C : Pc) (B F H : Hp) (σ : L2.St), Wd C F H → Gm C B F H σ Γ → ∀ R : It → Hp → Prop, (∀ J F' H', Grow [] F H F' H' → WkH J F' H' ds → R J H') → wi σ H R
def IterF (wi : TI) (Γ : List Sl) (ds : List PyData) : Prop :=
  ∀ (C : Pc) (B F H : Hp) (σ : L2.St), Wd C F H → Gm C B F H σ Γ → ∀ R : It → Hp → Prop, (∀ J F' H', Grow [] F H F' H' → WkF J F' ds → R J H') → wi σ H R
def iSeq (K : PySem.W.Frag) (tl : TE) : TI := fun σ H R => tl σ H fun x H1 => ∃ a, x = .ref a ∧ (((∃ xs, SqL K H1 a xs) ∧ R (Itl K a) H1) ∨ ((∃ xs, SqT K H1 a xs) ∧ R (Itt K a) H1))
theorem pi_seq {X : Cx} {tg l : Expr} {tl : TE} (hl : PE X l tl) : PI X tg l (iSeq X.K tl) := by
  refine ⟨fun pins s σ H R I h => ?_⟩
  refine thn (hl.run pins s σ H _ I h) fun v s1 ⟨x, H1, I1, r1, q1⟩ => ?_
  obtain ⟨a, e, q⟩ := q1
  subst e
  cases r1
  rcases q with ⟨⟨xs, hq⟩, q⟩ | ⟨⟨xs, hq⟩, q⟩
  · obtain ⟨its, rv, p, hz⟩ := I1.list hq
    refine wpAny_pyIter_list p.isList ?_
    refine ⟨s1.heap.objs.size, [s1.heap.objs.size], _, _, H1, rfl, I1.kept (t' := s1.toks) fun b o e => Heap.get?_push_of_some _ e, turn_list a _, ⟨_, Heap.get?_push_size _ rfl, rfl, rfl⟩, fun b hb => ?_, q⟩
    have e : b = s1.heap.objs.size := by simpa using hb
    subst e
    exact I1.fpOk (Nat.le_refl _) (I1.hok.fresh (Nat.le_refl _))
  · obtain ⟨its, rv, p, hz⟩ := I1.tuple hq
    refine wpAny_pyIter_tuple (show s1.heap.IsTuple a its.toArray from p) ?_
    refine ⟨s1.heap.objs.size, [s1.heap.objs.size], _, _, H1, rfl, I1.kept (t' := s1.toks) fun b o e => Heap.get?_push_of_some _ e, turn_tuple a _, ⟨_, Heap.get?_push_size _ rfl, rfl, rfl⟩, fun b hb => ?_, q⟩
    have e : b = s1.heap.objs.size := by simpa using hb
    subst e
    exact I1.fpOk (Nat.le_refl _) (I1.hok.fresh (Nat.le_refl _))
section
variable {te ta tb : TE} {ts : TA} {Γ : List Sl} {d x y : PyData} {ds es : List PyData} {K : PySem.W.Frag}
theorem IterF.h {wi : TI} (h : IterF wi Γ ds) : IterH wi Γ ds := fun C B F H σ w g R r => h C B F H σ w g R fun J F1 H1 g1 k => r J F1 H1 g1 fun F2 H2 g2 => k F2 H2 g2.ff g2.fh
/-- what stands at each turn, of a list, of a tuple -/
theorem wk_list {a : Addr} {vs : List V} {F H : Hp} (s : Sub F H) (h : H a = some (.lst vs)) (r : RpAll F vs ds) :
    (∀ i d, ds[i]? = some d → (Itl K a).go i H ∧ ∀ x H', (Itl K a).yld i H x H' → ∃ F', Grow [] F H F' H' ∧ Rp F' x d) ∧ (Itl K a).stop ds.length H :=
  ⟨fun i d e => by
    obtain ⟨v, h1, h2⟩ := r.get e
    exact ⟨⟨vs, v, SqL.of h, h1⟩, fun x H' ⟨e1, e2⟩ => by
      subst e1
      have e3 := e2 vs (SqL.of h)
      rw [h1] at e3; cases e3
      exact ⟨F, .refl s, h2⟩⟩, ⟨vs, SqL.of h, by rw [r.length]; exact Nat.le_refl _⟩⟩
theorem wk_tup {a : Addr} {vs : List V} {F H : Hp} (s : Sub F H) (h : H a = some (.tup vs)) (r : RpAll F vs ds) :
    (∀ i d, ds[i]? = some d → (Itt K a).go i H ∧ ∀ x H', (Itt K a).yld i H x H' → ∃ F', Grow [] F H F' H' ∧ Rp F' x d) ∧ (Itt K a).stop ds.length H :=
  ⟨fun i d e => by
    obtain ⟨v, h1, h2⟩ := r.get e
    exact ⟨⟨vs, v, SqT.of h, h1⟩, fun x H' ⟨e1, e2⟩ => by
      subst e1
      have e3 := e2 vs (SqT.of h)
      rw [h1] at e3; cases e3
      exact ⟨F, .refl s, h2⟩⟩, ⟨vs, SqT.of h, by rw [r.length]; exact Nat.le_refl _⟩⟩
theorem ih_seq (h : RdS te Γ ds) : IterH (iSeq K te) Γ ds := fun C B F H σ w g R r => h C B F H σ w g _ fun v F1 H1 g1 ⟨p, vs, e, l, ra⟩ => by
  subst e
  refine ⟨p, rfl, ?_⟩
  rcases l with l | l
  · exact .inl ⟨⟨vs, SqL.of l⟩, r _ F1 H1 g1 fun F2 H2 g2 => wk_list g2.fh (g2.sub _ _ l) (ra.mono g2.ff)⟩
  · exact .inr ⟨⟨vs, SqT.of l⟩, r _ F1 H1 g1 fun F2 H2 g2 => wk_tup g2.fh (g2.sub _ _ l) (ra.mono g2.ff)⟩
theorem if_lst (h : EvD te Γ (.list ds)) : IterF (iSeq K te) Γ ds := fun C B F H σ w g R r => h C B F H σ w g _ fun v F1 H1 g1 r1 => by
  obtain ⟨p, vs, rfl, l, ra⟩ := Rp.lst_inv r1
  exact ⟨p, rfl, .inl ⟨⟨vs, SqL.of (g1.fh _ _ l)⟩, r _ F1 H1 g1 fun F2 H2 s1 s2 => wk_list s2 (s2 _ _ (s1 _ _ l)) (ra.mono s1)⟩⟩
theorem if_tup (h : EvD te Γ (.tuple ds)) : IterF (iSeq K te) Γ ds := fun C B F H σ w g R r => h C B F H σ w g _ fun v F1 H1 g1 r1 => by
  obtain ⟨p, vs, rfl, l, ra⟩ := Rp.tup_inv r1
  exact ⟨p, rfl, .inr ⟨⟨vs, SqT.of (g1.fh _ _ l)⟩, r _ F1 H1 g1 fun F2 H2 s1 s2 => wk_tup s2 (s2 _ _ (s1 _ _ l)) (ra.mono s1)⟩⟩
/-- range(n) -/
theorem if_rng1 {n : Int} (h : EvA ts Γ [.int n]) (h1 : -(2 ^ 62) ≤ n) (h2 : n < 2 ^ 62) : IterF (iRng1 ts) Γ ((List.range n.toNat).map fun i : Nat => .int i) := fun C B F H σ w g R r => h C B F H σ w g _ fun vs F1 H1 g1 r1 => by
  cases r1 with
  | cons r1 r2 =>
    cases r2
    rw [r1.int_inv]
    refine ⟨n, rfl, h1, h2, r _ F1 H1 g1 fun F2 H2 s1 s2 => ⟨fun i d e => ?_, ?_⟩⟩
    · rw [List.getElem?_map] at e
      by_cases hi : i < n.toNat
      · rw [List.getElem?_range hi] at e
        cases e
        exact ⟨hi, fun x H' ⟨e1, e2⟩ => by subst e1 e2; rw [Int.zero_add]; exact ⟨F2, .refl s2, .int _⟩⟩
      · rw [List.getElem?_eq_none (by simpa using hi)] at e; cases e
    · show n.toNat ≤ _
      simp
theorem if_rngN {n : Nat} (h : EvD ta Γ (.int (n : Int))) (h2 : n ≤ 100000) : IterF (iRng1 (tCons ta tNil)) Γ ((List.range n).map fun i : Nat => .int i) := if_rng1 (ea_cons h ea_nil) (by omega) (by omega)
theorem if_rng2 {i j : Int} (h : EvA ts Γ [.int i, .int j]) (h1 : -(2 ^ 62) ≤ i) (h2 : i < 2 ^ 62) (h3 : -(2 ^ 62) ≤ j) (h4 : j < 2 ^ 62) : IterF (iRng2 ts) Γ ((List.range (j - i).toNat).map fun k : Nat => .int (i + k)) := fun C B F H σ w g R r => h C B F H σ w g _ fun vs F1 H1 g1 r1 => by
  cases r1 with
  | cons r1 r2 =>
    cases r2 with
    | cons r2 r3 =>
      cases r3
      rw [r1.int_inv, r2.int_inv]
      refine ⟨i, j, rfl, ⟨h1, h2, h3, h4⟩, r _ F1 H1 g1 fun F2 H2 s1 s2 => ⟨fun k d e => ?_, ?_⟩⟩
      · rw [List.getElem?_map] at e
        by_cases hi : k < (j - i).toNat
        · rw [List.getElem?_range hi] at e
          cases e
          exact ⟨hi, fun x H' ⟨e1, e2⟩ => by subst e1 e2; exact ⟨F2, .refl s2, .int _⟩⟩
        · rw [List.getElem?_eq_none (by simpa using hi)] at e; cases e
      · show (j - i).toNat ≤ _
        simp

/-! ### targets -/
def TgD (g : TG) (vs : List Nat) (Γ : List Sl) (d : PyData) (Γ' : List Sl) : Prop :=
  ∀ (C : Pc) (B F H : Hp) (σ : L2.St) (x : V), Sub F H → Gm C B F H σ Γ → Rp F x d → ∀ Q : L2.St → Hp → Prop, (∀ σ', Gm C B F H σ' Γ' → L2.wipe σ' vs = L2.wipe σ vs → Q σ' H) → g x σ H Q
theorem wipe_get (σ : L2.St) : ∀ (vs : List Nat) (j : Nat), (L2.wipe σ vs)[j]? = if j ∈ vs then (if j < σ.length then some none else none) else σ[j]?
  | [], j => by simp [L2.wipe]
  | v :: vs, j => by
    unfold L2.wipe
    rw [List.getElem?_set, L2.wipe_length, wipe_get σ vs j]
    by_cases h : v = j
    · subst h; simp
    · simp [h, Ne.symm h]
theorem wipe_set {σ : L2.St} {vs : List Nat} {i : Nat} {x : Option V} (h : i ∈ vs) : L2.wipe (σ.set i x) vs = L2.wipe σ vs := by
  apply List.ext_getElem?
  intro j
  rw [wipe_get, wipe_get, List.length_set]
  by_cases hj : j ∈ vs
  · rw [if_pos hj, if_pos hj]
  · rw [if_neg hj, if_neg hj, List.getElem?_set_ne (fun e : i = j => hj (e ▸ h))]
theorem wipe_wipe (σ : L2.St) (vs : List Nat) : L2.wipe (L2.wipe σ vs) vs = L2.wipe σ vs := by
  apply List.ext_getElem?
  intro j
  rw [wipe_get, L2.wipe_length, wipe_get]
  by_cases hj : j ∈ vs
  · rw [if_pos hj, if_pos hj]
  · rw [if_neg hj, if_neg hj]
theorem tg_name {i : Nat} {vs : List Nat} (h : i ∈ vs) : TgD (gName i) vs Γ d (Γ.set i (.dat d)) := fun C B F H σ x s g r Q q => q _ (g.dat r) (wipe_set h)
theorem tg_pair {i j : Nat} {vs : List Nat} (h1 : i ∈ vs) (h2 : j ∈ vs) : TgD (gTup K 2 (gCons (gName i) (gCons (gName j) gNil))) vs Γ (.tuple [x, y]) ((Γ.set i (.dat x)).set j (.dat y)) := fun C B F H σ z s g r Q q => by
  obtain ⟨a, xs, rfl, f, ra⟩ := Rp.tup_inv r
  cases ra with
  | cons r1 ra =>
    cases ra with
    | cons r2 ra =>
      cases ra
      refine ⟨a, _, rfl, SqT.of (s _ _ f), rfl, _, _, rfl, _, _, rfl, rfl, ?_⟩
      exact q _ ((g.dat r1).dat r2) (by rw [wipe_set h2, wipe_set h1])

/-! ### comprehensions -/
theorem en_lc {α : Type} {xs : List α} {enc f : α → PyData} {p : α → Bool} {wi : TI} {g : TG} {tt : TT} {vs : List Nat} {Γx : α → List Sl}
    (hi : IterH wi Γ (xs.map enc)) (hz : xs.length ≤ 100000) (hg : ∀ x ∈ xs, TgD g vs (wipeG Γ vs) (enc x) (Γx x))
    (ht : ∀ x ∈ xs, EvT tt (Γx x) (p x)) (he : ∀ x ∈ xs, p x = true → EvD te (Γx x) (f x)) : EvN (tLc wi g tt te vs) Γ ((xs.filter p).map f) := fun C B F H σ w gm Q q =>
  hi C B F H σ w gm _ fun J F1 H1 g1 wk D hD => by
    have w1 := w.grow g1
    have e1 := gm.grow g1.weak
    refine ⟨fun i m H' => i + m = xs.length ∧ ∃ F' acc, Grow [] F1 H1 F' H' ∧ F' D = none ∧ H' D = some (.lst acc) ∧ RpAll F' acc (((xs.take i).filter p).map f),
      ⟨xs.length, by omega, F1, [], .newM g1.fh hD, g1.fh.none hD, upd_same, .nil⟩, fun i m H' ⟨hm, F', acc, g2, hF, hH, ra⟩ => ?_⟩
    by_cases hlt : i < xs.length
    · refine .inr ?_
      obtain ⟨x, hx⟩ : ∃ x, xs[i]? = some x := ⟨_, List.getElem?_eq_getElem hlt⟩
      have hmem : x ∈ xs := List.mem_of_getElem? hx
      have htk : xs.take (i + 1) = xs.take i ++ [x] := by rw [List.take_add_one, hx]; rfl
      obtain ⟨go, yl⟩ := (wk F' H' g2).1 i (enc x) (by rw [List.getElem?_map, hx]; rfl)
      refine ⟨go, fun H'' => ∃ F'' acc, Grow [] F1 H1 F'' H'' ∧ F'' D = none ∧ H'' D = some (.lst acc) ∧ RpAll F'' acc (((xs.take (i + 1)).filter p).map f), fun H'' h'' => ⟨m - 1, by omega, by omega, h''⟩, fun v H'' y => ?_⟩
      obtain ⟨F'', g3, rv⟩ := yl v H'' y
      have nD : D ∉ ([] : List Addr) := by simp
      have g23 := g2.trans g3
      have dF : F'' D = none := g3.nw D (by rw [hH]; exact fun z => nomatch z) hF
      refine hg x hmem C B F'' H'' (L2.wipe σ vs) v g3.fh ((e1.grow g23.weak).wipe vs) rv _ fun σ' e2 hw => ⟨hw.trans (wipe_wipe σ vs), ?_⟩
      refine ht x hmem C B F'' H'' σ' (w1.grow g23) e2 _ fun F3 H3 g4 => ?_
      have d3 : H3 D = some (.lst acc) := g4.sub _ _ (g3.sub _ _ hH)
      have f3 : F3 D = none := g4.nw D (by rw [g3.sub _ _ hH]; exact fun z => nomatch z) dF
      cases hp : p x with
      | true =>
        rw [if_pos rfl]
        refine he x hmem hp C B F3 H3 σ' ((w1.grow g23).grow g4) (e2.grow g4.weak) _ fun u F4 H4 g5 ru => ?_
        have gg := (g23.trans g4).trans g5
        refine ⟨acc, g5.sub _ _ d3, ?_, F4, acc ++ [u], ?_, g5.nw D (by rw [d3]; exact fun z => nomatch z) f3, upd_same, ?_⟩
        · rw [ra.length, List.length_map]
          exact Nat.lt_of_le_of_lt (Nat.le_trans (List.length_filter_le _ _) (by rw [List.length_take]; exact Nat.le_trans (Nat.min_le_right _ _) hz)) (by decide)
        · exact ⟨gg.ff, fun a o e => by
            have z : a ≠ D := fun z => by subst z; rw [g5.nw a (by rw [d3]; exact fun z => nomatch z) f3] at e; cases e
            rw [upd_ne z]; exact gg.fh a o e, fun a o n e => by
            have z : a ≠ D := fun z => by subst z; rw [hD] at e; cases e
            rw [upd_ne z]; exact gg.hh a o n e, fun a e => upd_th (gg.th a e), gg.nw⟩
        · rw [htk, List.filter_append, List.map_append, show ([x].filter p) = [x] by simp [hp]]
          exact (((ra.mono g3.ff).mono g4.ff).mono g5.ff).append (.one ru)
      | false =>
        rw [if_neg Bool.false_ne_true]
        refine ⟨F3, acc, g23.trans g4, f3, d3, ?_⟩
        rw [htk, List.filter_append, show ([x].filter p) = [] by simp [hp], List.append_nil]
        exact (ra.mono g3.ff).mono g4.ff
    · refine .inl ?_
      have ei : i = xs.length := by omega
      subst ei
      refine ⟨by have z := (wk F' H' g2).2; rw [List.length_map] at z; exact z, ?_⟩
      rw [List.take_length] at ra
      exact q _ F' H' (g1.trans g2) ⟨D, acc, rfl, g1.fresh hD, hF, hH, ra⟩
/-- without a test -/
theorem en_lcM {α : Type} {xs : List α} {enc f : α → PyData} {wi : TI} {g : TG} {vs : List Nat} {Γx : α → List Sl}
    (hi : IterH wi Γ (xs.map enc)) (hz : xs.length ≤ 100000) (hg : ∀ x ∈ xs, TgD g vs (wipeG Γ vs) (enc x) (Γx x))
    (he : ∀ x ∈ xs, EvD te (Γx x) (f x)) : EvN (tLc wi g tYes te vs) Γ (xs.map f) :=
  (en_lc (p := fun _ => true) hi hz hg (fun _ _ => et_yes) fun x hx _ => he x hx).is (by rw [List.filter_eq_self.mpr fun _ _ => rfl])
end
end Eh

namespace Eh
open PySem PySem.Spec PyProof.Rows L2

/-! ### statements: from the slots Γ -/
def At (C : Pc) (B F0 : Hp) (Γ : List Sl) (P : L2.St → Hp → Prop) : Prop := ∀ F H σ, Wd C F H → Grow C.S F0 B F H → Gm C B F H σ Γ → P σ H
/-- what the end wants of a value handed back; of a new list; of an error; of the body's end -/
def RetOk (C : Pc) (B F0 : Hp) (D : Ends) (R : PyData → Prop) : Prop := ∀ F H v d, Wd C F H → Grow C.S F0 B F H → R d → Rp F v d → D.rt v H
def RetN (C : Pc) (B F0 : Hp) (D : Ends) (R : List PyData → Prop) : Prop := ∀ F H p us es, Wd C F H → Grow C.S F0 B F H → B p = none → F p = none → p ∉ C.S → H p = some (.lst us) → RpAll F us es → R es → D.rt (.ref p) H
def RaiseOk (C : Pc) (B F0 : Hp) (E : XK) (R : Addr → Option (List (Str × V)) → Prop) : Prop := ∀ F H cv dd c f, Wd C F H → Grow C.S F0 B F H → R c f → XcOk c f cv dd H → E cv dd H
section
variable {C : Pc} {B F0 : Hp} {Γ Γ' : List Sl} {D : Ends} {te ta tb : TE} {t u : TS} {tt : TT} {d x y : PyData} {ds es : List PyData} {i j : Nat} {K : PySem.W.Frag} {R : PyData → Prop} {RN : List PyData → Prop} {RX : Addr → Option (List (Str × V)) → Prop} {E : XK} {P : L2.St → Hp → Prop}
theorem at_asg (h : EvD te Γ d) (k : At C B F0 (Γ.set i (.dat d)) D.nx) : At C B F0 Γ (tAsg te (gName i) D) := fun F H σ w g e =>
  h C B F H σ w e _ fun v F1 H1 g1 r => k F1 H1 _ (w.grow g1) (g.trans g1.weak) ((e.grow g1.weak).dat r)
theorem Grow.th_none {S : List Addr} {F H F' H' : Hp} {p : Addr} (a : Grow S F H F' H') (h : H' p = none) : H p = none := a.fresh h
theorem at_asgN (h : EvN te Γ ds) (k : At C B F0 (Γ.set i (.own ds)) D.nx) : At C B F0 Γ (tAsg te (gName i) D) := fun F H σ w g e =>
  h C B F H σ w e _ fun v F1 H1 g1 ⟨p, vs, ev, hn, hf, hl, r⟩ => by
    subst ev
    have hs : p ∉ C.S := fun z => w.sH p z hn
    refine k F1 H1 _ (w.grow g1) (g.trans g1.weak) ((e.grow g1.weak).set ⟨p, vs, rfl, hl, hf, g.fresh hn, hs, r⟩ fun ds' _ j es q eq h1 h2 => ?_)
    cases eq
    obtain ⟨q, us, e1, h3, _⟩ := e.ok j _ h1
    rw [h2] at e1; cases e1
    rw [hn] at h3; cases h3
theorem at_seq (h : At C B F0 Γ (t { D with nx := u D })) : At C B F0 Γ (tSeq t u D) := h
theorem at_next (h : At C B F0 Γ D.nx) : At C B F0 Γ (tNext D) := h
theorem at_brk (h : At C B F0 Γ D.bk) : At C B F0 Γ (tBreak D) := h
theorem at_cont (h : At C B F0 Γ D.ct) : At C B F0 Γ (tCont D) := h
theorem at_ret (hr : RetOk C B F0 D R) (h : EvD te Γ d) (hd : R d) : At C B F0 Γ (tRet te D) := fun F H σ w g e =>
  h C B F H σ w e _ fun v F1 H1 g1 r => hr F1 H1 v d (w.grow g1) (g.trans g1.weak) hd r
theorem at_retN (hr : RetN C B F0 D RN) (h : EvN te Γ ds) (hd : RN ds) : At C B F0 Γ (tRet te D) := fun F H σ w g e =>
  h C B F H σ w e _ fun v F1 H1 g1 ⟨p, vs, ev, hn, hf, hl, r⟩ => by
    subst ev
    exact hr F1 H1 p vs ds (w.grow g1) (g.trans g1.weak) (g.fresh hn) hf (fun z => w.sH p z hn) hl r hd
/-- an own list is handed back -/
theorem at_retO (hr : RetN C B F0 D RN) (h : Γ[i]? = some (.own ds)) (hd : RN ds) : At C B F0 Γ (tRet (tVar i) D) := fun F H σ w g e => by
  obtain ⟨p, vs, e1, hl, hf, hb, hs, r⟩ := e.ok i _ h
  exact ⟨_, e1, hr F H p vs ds w g hb hf hs hl r hd⟩
/-- an own list stands for good from here -/
theorem at_frz (i : Nat) (h : Γ[i]? = some (.own ds)) (k : At C B F0 (Γ.set i (.dat (.list ds))) P) : At C B F0 Γ P := fun F H σ w g e => by
  obtain ⟨p, vs, e1, hl, hf, hb, hs, r⟩ := e.ok i _ h
  have il : i < Γ.length := (List.getElem?_eq_some_iff.mp h).1
  have sF : Sub F (upd F p (.lst vs)) := Sub.new hf
  refine k (upd F p (.lst vs)) H σ (w.freeze hs hl hf) (g.freeze hb hl hf) ⟨by rw [List.length_set, e.len], fun j t ej => ?_, fun j m ds' es' q e2 e3 e4 e5 => ?_⟩
  · rw [List.getElem?_set] at ej
    by_cases hj : i = j
    · subst hj
      rw [if_pos rfl, if_pos il] at ej
      cases ej
      exact ⟨_, e1, .lst upd_same (r.mono sF)⟩
    · rw [if_neg hj] at ej
      have k1 := e.ok j t ej
      cases t with
      | no => trivial
      | dat d => obtain ⟨v, a1, a2⟩ := k1; exact ⟨v, a1, a2.mono sF⟩
      | own fs =>
        obtain ⟨q, us, a1, a2, a3, a4, a5, a6⟩ := k1
        have nq : q ≠ p := fun z => hj (e.inj i j ds fs p h ej e1 (z ▸ a1))
        exact ⟨q, us, a1, a2, by rw [upd_ne nq]; exact a3, a4, a5, a6.mono sF⟩
      | pool => exact k1
      | fz K a xs => exact k1
      | ref a => exact k1
  · have ne : ∀ (m : Nat) (xs : List PyData), (Γ.set i (.dat (.list ds)))[m]? = some (Sl.own xs) → Γ[m]? = some (Sl.own xs) := fun m xs z => by
      rw [List.getElem?_set] at z
      by_cases hm : i = m
      · subst hm; rw [if_pos rfl, if_pos il] at z; cases z
      · rw [if_neg hm] at z; exact z
    exact e.inj j m ds' es' q (ne j ds' e2) (ne m es' e3) e4 e5
theorem at_if {b : Bool} (h : EvT tt Γ b) (h1 : b = true → At C B F0 Γ (t D)) (h2 : b = false → At C B F0 Γ (u D)) : At C B F0 Γ (tIfS tt t u D) := fun F H σ w g e =>
  h C B F H σ w e _ fun F1 H1 g1 => by
    cases b with
    | true =>
      show t D σ H1
      exact h1 rfl F1 H1 σ (w.grow g1) (g.trans g1.weak) (e.grow g1.weak)
    | false =>
      show u D σ H1
      exact h2 rfl F1 H1 σ (w.grow g1) (g.trans g1.weak) (e.grow g1.weak)
theorem at_ifT (h : EvT tt Γ true) (h1 : At C B F0 Γ (t D)) : At C B F0 Γ (tIfS tt t u D) := at_if h (fun _ => h1) fun z => nomatch z
theorem at_ifF (h : EvT tt Γ false) (h1 : At C B F0 Γ (u D)) : At C B F0 Γ (tIfS tt t u D) := at_if h (fun z => nomatch z) fun _ => h1
theorem at_drop (h : EvD te Γ d) (k : At C B F0 Γ D.nx) : At C B F0 Γ (tDrop te D) := fun F H σ w g e =>
  h C B F H σ w e _ fun v F1 H1 g1 r => k F1 H1 _ (w.grow g1) (g.trans g1.weak) (e.grow g1.weak)
/-- an error -/
theorem at_asgX {c : Addr} {f : Option (List (Str × V))} {gg : TG} (hr : RaiseOk C B F0 E RX) (h : EvX te Γ E c f) (hx : RX c f) : At C B F0 Γ (tAsg te gg D) := fun F H σ w g e =>
  h C B F H σ w e _ fun cv dd F1 H1 g1 x => hr F1 H1 cv dd c f (w.grow g1) (g.trans g1.weak) hx x
theorem at_dropX {c : Addr} {f : Option (List (Str × V))} (hr : RaiseOk C B F0 E RX) (h : EvX te Γ E c f) (hx : RX c f) : At C B F0 Γ (tDrop te D) := fun F H σ w g e =>
  h C B F H σ w e _ fun cv dd F1 H1 g1 x => hr F1 H1 cv dd c f (w.grow g1) (g.trans g1.weak) hx x
theorem at_retX {c : Addr} {f : Option (List (Str × V))} (hr : RaiseOk C B F0 E RX) (h : EvX te Γ E c f) (hx : RX c f) : At C B F0 Γ (tRet te D) := fun F H σ w g e =>
  h C B F H σ w e _ fun cv dd F1 H1 g1 x => hr F1 H1 cv dd c f (w.grow g1) (g.trans g1.weak) hx x
/-- raise C('..') -/
def tRaiseC (E : XK) (c : Addr) : TS := fun _ σ H => (fun cls d (_ : L2.St) H' => E cls d H') (.ref c) none σ H
theorem at_raise {c : Addr} (hr : RaiseOk C B F0 E RX) (hx : RX c none) : At C B F0 Γ (tRaiseC E c D) := fun F H σ w g e => hr F H (.ref c) none c none w g hx ⟨rfl, rfl⟩
/-- name += e, ints -/
theorem at_aug {a b : Int} {f : Int → Int → Int} (hx : Γ[i]? = some (.dat (.int a))) (h : EvD te Γ (.int b)) (k : At C B F0 (Γ.set i (.dat (.int (f a b)))) D.nx) : At C B F0 Γ (tAug i te (ipI f) D) := fun F H σ w g e => by
  obtain ⟨v, e1, r⟩ := e.get hx
  rw [r.int_inv] at e1
  exact ⟨_, e1, h C B F H σ w e _ fun v F1 H1 g1 r1 => ⟨a, b, rfl, r1.int_inv, k F1 H1 _ (w.grow g1) (g.trans g1.weak) ((e.grow g1.weak).dat (.int _))⟩⟩
/-- own.append(e) -/
theorem at_append (hx : Γ[i]? = some (.own ds)) (hz : ds.length < 100000) (h : EvD te Γ d) (k : At C B F0 (Γ.set i (.own (ds ++ [d]))) D.nx) :
    At C B F0 Γ (tDrop (tBM K "list" rAppend (tVar i) (tCons te tNil)) D) := fun F H σ w g e => by
  obtain ⟨p, vs, e1, hl, hf, hb, hs, r⟩ := e.ok i _ hx
  refine ⟨_, e1, .inl ⟨rfl, vs, SqL.of hl⟩, h C B F H σ w e _ fun v F1 H1 g1 rv => ?_⟩
  have hl1 := g1.sub _ _ hl
  have hf1 := g1.nw p (by rw [hl]; exact fun z => nomatch z) hf
  have g2 := g.trans g1.weak
  have e2 : Gm C B F1 H1 σ Γ := e.grow g1.weak
  exact ⟨p, vs, v, rfl, rfl, hl1, by rw [r.length]; exact size_lt hz, k F1 _ σ ((w.grow g1).mut hs hf1) (g2.mut hb hf1) (e2.mut hx e1 ((r.mono g1.ff).append (.one rv)))⟩
/-- own[i] = e -/
theorem at_setL {n : Int} {k : Nat} (hx : Γ[i]? = some (.own ds)) (h : EvD te Γ d) (hi : EvD tb Γ (.int n)) (hk : ixN ds.length n = some k) (kk : At C B F0 (Γ.set i (.own (ds.set k d))) D.nx) :
    At C B F0 Γ (tAsg te (gSub (tVar i) tb rSetL) D) := fun F H σ w g e => by
  obtain ⟨p, vs, e1, hl, hf, hb, hs, r⟩ := e.ok i _ hx
  refine h C B F H σ w e _ fun v F1 H1 g1 rv => ⟨_, e1, hi C B F1 H1 σ (w.grow g1) (e.grow g1.weak) _ fun u F2 H2 g2 ru => ?_⟩
  rw [Rp.int_inv ru]
  have g12 := g1.trans g2
  have hl1 := g12.sub _ _ hl
  have hf1 := g12.nw p (by rw [hl]; exact fun z => nomatch z) hf
  have gg := g.trans (S := C.S) g12.weak
  have e2 : Gm C B F2 H2 σ Γ := e.grow g12.weak
  exact ⟨p, vs, n, k, rfl, rfl, hl1, by rw [r.length]; exact hk, kk F2 _ σ ((w.grow g12).mut hs hf1) (gg.mut hb hf1) (e2.mut hx e1 ((r.mono g12.ff).set k (rv.mono g2.ff)))⟩
/-- own.extend(e) -/
theorem at_extend (hx : Γ[i]? = some (.own ds)) (h : EvN te Γ es) (hz : ds.length + es.length ≤ 100000) (k : At C B F0 (Γ.set i (.own (ds ++ es))) D.nx) :
    At C B F0 Γ (tDrop (tBM K "list" rExtend (tVar i) (tCons te tNil)) D) := fun F H σ w g e => by
  obtain ⟨p, vs, e1, hl, hf, hb, hs, r⟩ := e.ok i _ hx
  refine ⟨_, e1, .inl ⟨rfl, vs, SqL.of hl⟩, h C B F H σ w e _ fun v F1 H1 g1 ⟨b, us, eb, _, _, hlb, rb⟩ => ?_⟩
  subst eb
  have hl1 := g1.sub _ _ hl
  have hf1 := g1.nw p (by rw [hl]; exact fun z => nomatch z) hf
  have g2 := g.trans (S := C.S) g1.weak
  have e2 : Gm C B F1 H1 σ Γ := e.grow g1.weak
  exact ⟨p, b, vs, us, rfl, rfl, hl1, hlb, by rw [r.length, rb.length]; exact size_ok hz, k F1 _ σ ((w.grow g1).mut hs hf1) (g2.mut hb hf1) (e2.mut hx e1 ((r.mono g1.ff).append rb))⟩
theorem At.chain {F1 H1 : Hp} (a : Grow C.S F0 B F1 H1) (h : At C B F0 Γ P) : At C B F1 Γ P := fun F H σ w g e => h F H σ w (a.chain g) e
theorem RetOk.chain {F1 H1 : Hp} (a : Grow C.S F0 B F1 H1) (h : RetOk C B F0 D R) : RetOk C B F1 D R := fun F H v d w g => h F H v d w (a.chain g)
theorem RetN.chain {F1 H1 : Hp} (a : Grow C.S F0 B F1 H1) (h : RetN C B F0 D RN) : RetN C B F1 D RN := fun F H p us es w g => h F H p us es w (a.chain g)
theorem RaiseOk.chain {F1 H1 : Hp} (a : Grow C.S F0 B F1 H1) (h : RaiseOk C B F0 E RX) : RaiseOk C B F1 E RX := fun F H cv dd c f w g => h F H cv dd c f w (a.chain g)
/-- for target in what stands for good: Γi i the slots ahead of turn i -/
theorem at_for {α : Type} {xs : List α} {enc : α → PyData} {wi : TI} {g : TG} {vs : List Nat} (Γi : Nat → List Sl) (Γx : Nat → α → List Sl) (hi : IterF wi (Γi 0) (xs.map enc))
    (hg : ∀ i x, xs[i]? = some x → TgD g vs (Γi i) (enc x) (Γx i x))
    (hb : ∀ i x, xs[i]? = some x → ∀ F1 H1, Grow C.S F0 B F1 H1 → ∀ D' : Ends, D'.rt = D.rt → At C B F1 (Γi (i + 1)) D'.nx → At C B F1 (Γi (i + 1)) D'.ct → D'.bk = D.nx → At C B F1 (Γx i x) (t D'))
    (hd : At C B F0 (Γi xs.length) D.nx) : At C B F0 (Γi 0) (tFor wi g t D) := fun F H σ w gr e =>
  hi C B F H σ w e _ fun J F1 H1 g1 wk => by
    have gb : Grow C.S F0 B F1 H1 := gr.trans g1.weak
    refine ⟨fun i m σ' H' => i + m = xs.length ∧ ∃ F', Wd C F' H' ∧ Grow C.S F1 B F' H' ∧ Gm C B F' H' σ' (Γi i), ⟨xs.length, by omega, F1, w.grow g1, gb.start, e.grow g1.weak⟩, fun i m σ' H' ⟨hm, F', w2, g2, e2⟩ => ?_⟩
    by_cases hlt : i < xs.length
    · refine .inr ?_
      obtain ⟨x, hx⟩ : ∃ x, xs[i]? = some x := ⟨_, List.getElem?_eq_getElem hlt⟩
      obtain ⟨go, yl⟩ := (wk F' H' g2.ff g2.fh).1 i (enc x) (by rw [List.getElem?_map, hx]; rfl)
      refine ⟨go, fun σ'' H'' => ∃ F'', Wd C F'' H'' ∧ Grow C.S F1 B F'' H'' ∧ Gm C B F'' H'' σ'' (Γi (i + 1)), fun σ'' H'' h'' => ⟨m - 1, by omega, by omega, h''⟩, fun v H'' y => ?_⟩
      obtain ⟨F'', g3, rv⟩ := yl v H'' y
      refine hg i x hx C B F'' H'' σ' v g3.fh (e2.grow g3.weak) rv _ fun σ3 e3 _ => ?_
      exact hb i x hx F1 H1 gb { D with nx := fun σ'' H'' => ∃ F'', Wd C F'' H'' ∧ Grow C.S F1 B F'' H'' ∧ Gm C B F'' H'' σ'' (Γi (i + 1)), ct := fun σ'' H'' => ∃ F'', Wd C F'' H'' ∧ Grow C.S F1 B F'' H'' ∧ Gm C B F'' H'' σ'' (Γi (i + 1)), bk := D.nx } rfl
        (fun F H σ w g e => ⟨F, w, g, e⟩) (fun F H σ w g e => ⟨F, w, g, e⟩) rfl F'' H'' σ3 (w2.grow g3) (g2.trans g3.weak) e3
    · refine .inl ?_
      have ei : i = xs.length := by omega
      subst ei
      exact ⟨by have z := (wk F' H' g2.ff g2.fh).2; rw [List.length_map] at z; exact z, hd F' H' σ' w2 (gb.chain g2) e2⟩
/-- while: by states s of a type of one's own, a measure -/
theorem at_while {σT : Type} {tc : TT} (Γs : σT → List Sl) (b : σT → Bool) (next : σT → σT) (μ : σT → Nat) (I : σT → Prop) (s0 : σT) (h0 : I s0)
    (hc : ∀ s, I s → EvT tc (Γs s) (b s))
    (hb : ∀ s, I s → b s = true → ∀ F1 H1, Grow C.S F0 B F1 H1 → ∀ D' : Ends, D'.rt = D.rt → (∀ s', I s' → μ s' < μ s → At C B F1 (Γs s') D'.nx) → (∀ s', I s' → μ s' < μ s → At C B F1 (Γs s') D'.ct) → D'.bk = D.nx → At C B F1 (Γs s) (t D'))
    (hd : ∀ s, I s → b s = false → At C B F0 (Γs s) D.nx) : At C B F0 (Γs s0) (tWhile tc t D) := fun F H σ w gr e => by
  refine ⟨fun m σ' H' => ∃ s, m = μ s ∧ I s ∧ ∃ F', Wd C F' H' ∧ Grow C.S F0 B F' H' ∧ Gm C B F' H' σ' (Γs s), ⟨_, s0, rfl, h0, F, w, gr, e⟩, fun m σ' H' ⟨s, hm, hI, F', w2, g2, e2⟩ => ?_⟩
  subst hm
  refine hc s hI C B F' H' σ' w2 e2 _ fun F3 H3 g3 => ?_
  cases hbs : b s with
  | true =>
    rw [if_pos rfl]
    refine ⟨fun σ'' H'' => ∃ s', μ s' < μ s ∧ I s' ∧ ∃ F'', Wd C F'' H'' ∧ Grow C.S F0 B F'' H'' ∧ Gm C B F'' H'' σ'' (Γs s'), fun σ'' H'' ⟨s', hl, hI', k⟩ => ⟨μ s', hl, s', rfl, hI', k⟩, ?_⟩
    have gb := g2.trans (S := C.S) g3.weak
    exact hb s hI hbs F0 H3 ⟨Sub.refl _, fun a o h => gb.fh a o (gb.ff a o h), gb.hh, gb.th, fun _ _ n => n⟩ { D with nx := _, ct := _, bk := D.nx } rfl (fun s' hI' hl F H σ w g e => ⟨s', hl, hI', F, w, g, e⟩) (fun s' hI' hl F H σ w g e => ⟨s', hl, hI', F, w, g, e⟩) rfl F3 H3 σ' (w2.grow g3) gb (e2.grow g3.weak)
  | false =>
    rw [if_neg Bool.false_ne_true]
    exact hd s hI hbs F3 H3 σ' (w2.grow g3) (g2.trans g3.weak) (e2.grow g3.weak)
end

/-! ### a def's body from its promise -/
def startG (n : Nat) (ds : List PyData) : List Sl := ds.map .dat ++ List.replicate (n - ds.length) .no
theorem start_gm {F H : Hp} {vs : List V} {ds : List PyData} {N : List Str} (r : RpAll F vs ds) : Gm pc0 H F H (L2.start N vs) (startG N.length ds) := by
  have hl := r.length
  refine ⟨by unfold L2.start startG; simp [hl], fun i s e => ?_, fun i j ds' es p e1 _ _ _ => ?_⟩
  · unfold startG at e
    by_cases hi : i < ds.length
    · rw [List.getElem?_append_left (by simpa using hi), List.getElem?_map, List.getElem?_eq_getElem hi] at e
      cases e
      obtain ⟨v, h1, h2⟩ := r.get (List.getElem?_eq_getElem hi)
      refine ⟨v, ?_, h2⟩
      unfold L2.start
      rw [List.getElem?_append_left (by simpa [hl] using hi), List.getElem?_map, h1]
      rfl
    · rw [List.getElem?_append_right (by simpa using hi), List.getElem?_replicate] at e
      split at e
      · cases e; trivial
      · cases e
  · exfalso
    unfold startG at e1
    by_cases hi : i < ds.length
    · rw [List.getElem?_append_left (by simpa using hi), List.getElem?_map, List.getElem?_eq_getElem hi] at e1
      cases e1
    · rw [List.getElem?_append_right (by simpa using hi), List.getElem?_replicate] at e1
      split at e1 <;> cases e1
theorem spR_body {R : List PyData → Out → Prop} {N : List Str} {t : XK → TS} {vs : List V} {H : Hp} {Q : VK} {E : XK} (h : spR R vs H Q E)
    (hb : ∀ ds o, R ds o → ∀ (B F0 : Hp) (D : Ends) (E : XK), RetOk pc0 B F0 D (fun d => o = .ok d) → RaiseOk pc0 B F0 E (fun c f => o = .err c f) → (o = .ok .none → ∀ Γ, At pc0 B F0 Γ D.nx) → At pc0 B F0 (startG N.length ds) (t E D)) :
    t E { nx := fun _ H' => Q .non H', rt := Q } (L2.start N vs) H := by
  obtain ⟨F, ds, o, s, r, hR, hok, herr⟩ := h
  exact hb ds o hR H F { nx := fun _ H' => Q .non H', rt := Q } E (fun F1 H1 v d _ g e rd => hok d e v F1 H1 g rd) (fun F1 H1 cv dd c f _ g e x => herr c f e cv dd F1 H1 g x)
    (fun e Γ F1 H1 σ _ g _ => hok .none e .non F1 H1 g .non) F H _ (wd0 s) (.refl s) (start_gm r)
theorem spN_body {R : List PyData → List PyData → Prop} {N : List Str} {t : TS} {vs : List V} {H : Hp} {Q : VK} {E : XK} (h : spN R vs H Q E)
    (hb : ∀ ds es, R ds es → ∀ (B F0 : Hp) (D : Ends), RetN pc0 B F0 D (fun x => x = es) → At pc0 B F0 (startG N.length ds) (t D)) :
    t { nx := fun _ H' => Q .non H', rt := Q } (L2.start N vs) H := by
  obtain ⟨F, ds, es, s, r, hR, hq⟩ := h
  exact hb ds es hR H F { nx := fun _ H' => Q .non H', rt := Q } (fun F1 H1 p us es' _ g hb hf _ hl ra e => by subst e; exact hq p us F1 H1 g hb hf hl ra) F H _ (wd0 s) (.refl s) (start_gm r)
end Eh

namespace Eh
open PySem PySem.Spec PyProof.Rows L2
/-! ### enumerate(x), x a list or a tuple -/
theorem meets_enum1B {v : Value} {o : Obj} {H : Heap → Prop} (B : Begins v o H) :
    Meets (Builtin.«enumerate.__new__» ⟨[.type "enumerate", v], []⟩) (fun _ R s => H s.heap ∧
      R (.ok (.ret (.ref (s.heap.push o).objs.size))) { s with heap := (s.heap.push o).push { cls := .type "enumerate", data := .fields #[.none, .bool false, .ref s.heap.objs.size, rawInt 0, .none, .none] } }) :=
  .of_wp fun prog w A R s h => by
    obtain ⟨hp, g, d, tk, os⟩ := s; obtain ⟨h1, h⟩ := h
    have hsub := sub_enumerate
    have q1 : ∀ {A' : Around} {E : Value → Shared → Prop} {Q : Value → Shared → Prop}, Q (.ref hp.objs.size) ⟨hp.push o, g, d, tk, os⟩ → wpAny (model prog w) A' (pyIter v) Q E ⟨hp, g, d, tk, os⟩ :=
      fun q => B.iter prog w _ _ ⟨hp, g, d, tk, os⟩ _ h1 q
    wp_walk using q1
    refine wpAny_stack_any fun st => wpAny_pure ?_
    split
    · rename_i c _ _ _ _ _
      cases (c == Value.type "enumerate")
      · wp_walk using q1
        exact ⟨_, rfl, h⟩
      · wp_walk using q1
        exact ⟨_, rfl, h⟩
    · wp_walk using q1
      exact ⟨_, rfl, h⟩
theorem enum1_begins {prog : Program} {w : World} {A : Around} {E : Value → Shared → Prop} {s : Shared} {v : Value} {o : Obj} {H : Heap → Prop} {Q : Value → Shared → Prop} (B : Begins v o H) (h1 : H s.heap)
    (h : ∀ h', IsEnum h' (s.heap.objs.size + 1) s.heap.objs.size 0 .none → h'.get? s.heap.objs.size = some o → h'.objs.size = s.heap.objs.size + 2 →
      (∀ b o, s.heap.get? b = some o → h'.get? b = some o) → Q (.ref (s.heap.objs.size + 1)) { s with heap := h' }) :
    wpAny (model prog w) A (call (.type "enumerate") [v]) Q E s := by
  refine callType_new F.called_enumerate (by decide) (F.typeCall_enumerate_1 _) (F.newCall_enumerate_1 _) (fun obj => F.args_object_init_2 obj _) F.entry_enumerate_new
    (meets_enum1B B) ⟨h1, ?_⟩
  have hz : (s.heap.push o).objs.size = s.heap.objs.size + 1 := Heap.size_push ..
  show _ ∧ _
  rw [hz]
  have he : IsEnum ((s.heap.push o).push { cls := .type "enumerate", data := .fields #[.none, .bool false, .ref s.heap.objs.size, rawInt 0, .none, .none] }) (s.heap.objs.size + 1) s.heap.objs.size 0 .none := by
    have := Heap.get?_push_size (s.heap.push o) (o := { cls := .type "enumerate", data := .fields #[.none, .bool false, .ref s.heap.objs.size, rawInt 0, .none, .none] }) rfl
    rw [hz] at this; exact this
  refine ⟨⟨_, he, rfl⟩, h _ he (Heap.get?_push_of_some _ (Heap.get?_push_size _ B.free)) (by rw [Heap.size_push, hz]) fun b o x => Heap.get?_push_of_some _ (Heap.get?_push_of_some _ x)⟩
/-- the tuple at a as it stands, each item in a new pair -/
def IteT (K : PySem.W.Frag) (a : Addr) : It :=
  ⟨fun i H => ∃ (xs : List V) (x : V), SqT K H a xs ∧ xs[i]? = some x, fun i H v H' => ∃ T x, v = .ref T ∧ H T = none ∧ H' = upd H T (.tup [.int (i : Nat), x]) ∧ ∀ xs, SqT K H a xs → xs[i]? = some x, fun i H => ∃ xs : List V, SqT K H a xs ∧ xs.length ≤ i⟩
theorem turn_enumT {P : Program} {w : World} {K : PySem.W.Frag} {elts : List Expr} {kk : Nat} {tpos : Pos} (a e it : Addr) :
    Turn P w K (.Tuple elts kk tpos) (IteT K a) [e, it] e (fun i h => (∃ old, IsEnum h e it ((i : Nat) : Int) old) ∧ h.IsTupleIter it a i ∧ e ≠ it) where
  mem := by simp
  obj := fun i h st b hb => by
    obtain ⟨⟨old, he⟩, ⟨o, ho, hc, hd⟩, _⟩ := st
    have e' : b = e ∨ b = it := by simpa using hb
    rcases e' with z | z
    · rw [z]; exact ⟨_, he, fun v q => nomatch q⟩
    · rw [z]; exact ⟨o, ho, fun v q => by rw [hd] at q; cases q⟩
  keep := fun i h h' st k => let ⟨⟨old, he⟩, hi, hne⟩ := st; ⟨⟨old, k e (by simp) _ he⟩, hi.at fun o q => k it (by simp) o q, hne⟩
  item := by
    intro X hP hw hK hc i pins s σ H E I hf st hg
    subst hP hw hK
    obtain ⟨⟨old, he⟩, hit, hne⟩ := st
    obtain ⟨xs, x, hq, hx⟩ := hg
    obtain ⟨its, rv, p, hz⟩ := I.tuple hq
    obtain ⟨u, hu, ru⟩ := rv.get hx
    have hel : e < s.heap.objs.size := Heap.lt_size he
    have hil : it < s.heap.objs.size := by obtain ⟨_, q, _⟩ := hit; exact Heap.lt_size q
    obtain ⟨f0, f1, f2, f3, f4, f5⟩ := hf it (by simp)
    obtain ⟨ot, hot, hct, hdt⟩ := id p
    have hai : a ≠ it := fun z => by
      obtain ⟨oi, hoi, hci, _⟩ := id hit
      subst z
      rw [hot] at hoi; cases hoi
      rw [hct] at hci; exact absurd (Value.type.inj hci) (by decide)
    have hae : a ≠ e := fun z => by
      subst z
      have he' : s.heap.get? a = some _ := he
      rw [hot] at he'; cases he'
      exact absurd (Value.type.inj hct) (by decide)
    have D := Draws.tuple (prog := X.prog) (w := X.w) (A := X.A.in1) (I.ok.hd hc) it a hai its.toArray
    have hlt : i < its.toArray.size := by
      have := (List.getElem?_eq_some_iff.mp hu).1
      simpa using this
    refine wpAny_pyNext_enum_itemC (c := (i : Int)) D he ⟨hit, (show s.heap.IsTuple a its.toArray from p)⟩ hlt hne (fun hm => ?_) fun x' h' tk hP' ho st' hT hsz hk => ?_
    · have e' : e = it ∨ e = a := by simpa using hm
      rcases e' with z | z
      · exact hne z
      · exact hae z.symm
    have ex : x' = u := by
      have e1 : its.toArray[i]? = some x' := hP'
      have e2 : its.toArray[i]? = some u := by simpa using hu
      rw [e1] at e2; exact Option.some.inj e2
    subst ex
    refine ⟨_, rfl, wpAny_letOwnedTupleGo_enum (s := { s with heap := h', toks := tk + 1 }) ho fun h'' he' sb => ?_⟩
    have hT2 : h''.get? s.heap.objs.size = some { cls := .type "tuple", data := .seq #[.int i tk, x'] } := (sb.2 _ (Nat.ne_of_gt hel)).trans hT
    have new : ObjOk X.prog X.w (upd H s.heap.objs.size (.tup [.int (i : Nat), x])) h'' s.heap.objs.size (.tup [.int (i : Nat), x]) :=
      ⟨by show 2 ≤ sizeLine; decide, [.int i tk, x'], .cons ⟨_, rfl⟩ (.cons ru .nil), ⟨_, hT2, rfl, _, rfl⟩⟩
    have I1 : Inv X pins σ (upd H s.heap.objs.size (.tup [.int (i : Nat), x])) { s with heap := h'', toks := tk + 1 } :=
      I.turnedNew (ch := [e, it]) (fun b ob hb q => (sb.2 b (fun z => hb (by simp [z]))).trans (hk b ob (fun z => hb (by simp [z])) (fun z => hb (by simp [z])) q)) hf (Nat.le_refl _) new
    refine ⟨.ref s.heap.objs.size, _, I1, rfl, ⟨_, x, rfl, I.hok.fresh (Nat.le_refl _), rfl, fun ys hy => by rw [I.tuple_inj hy hq]; exact hx⟩, ⟨⟨x', ?_⟩, st'.1.at fun o q => (sb.2 it (Ne.symm hne)).trans q, hne⟩, fun b hb => ?_⟩
    · have e1 : ((i + 1 : Nat) : Int) = (i : Int) + 1 := by omega
      rw [e1]; exact he'
    · have hb' : b < s.heap.objs.size := by
        have e' : b = e ∨ b = it := by simpa using hb
        rcases e' with z | z
        · rw [z]; exact hel
        · rw [z]; exact hil
      rw [upd_ne (Nat.ne_of_lt hb')]
      exact (hf b hb).1
  done := by
    intro X hP hw hK hc i pins s σ H E I hf st hg
    subst hP hw hK
    obtain ⟨⟨old, he⟩, hit, hne⟩ := st
    obtain ⟨xs, hq, hx⟩ := hg
    obtain ⟨its, rv, p, hz⟩ := I.tuple hq
    obtain ⟨f0, f1, f2, f3, f4, f5⟩ := hf it (by simp)
    have hl := rv.length
    have hT : s.TypeIs (.ref e) "enumerate" := ⟨_, he, rfl⟩
    unfold pyNext
    refine wpAny_bind (wpAny_attempt (wpAny_callSpecial?_slot (name := Str.ofString "__next__") hT F.slot_enumerate_next
      (wpAny_call_entry F.slot_enumerate_next hT F.entry_enumerate_next ?_ (F.args_enumerate_next_1 _))))
    show wpAny _ _ (field (.ref e) 2 >>= _) _ _ _
    refine wpAny_bind (wpAny_field he rfl (x := .ref it) rfl ?_)
    refine wpAny_bind (wpAny_nextOf_tuple_end (A := X.A.in1) (I.ok.hd hc) hit (show s.heap.IsTuple a its.toArray from p) (by simp; omega) fun h' x he' hx' => ?_)
    obtain ⟨o, ho, hcc⟩ := hx'
    refine wpAny_bind (wpAny_isInstance (T := "StopIteration") (b := true) ⟨o, ho, hcc⟩ isSubtype_stop ?_)
    exact wpAny_pure ⟨rfl, I.turned (t' := s.toks) (fun b o hb q => he' b o hb q) f0 f1 f3 f4 f5⟩
  self := fun A i s Q E st h => let ⟨⟨_, he⟩, _⟩ := st; wpAny_pyIter_enum he h
def iEnumA (K : PySem.W.Frag) (ta : TA) : TI := fun σ H R => ta σ H fun vs H1 => ∃ a, vs = [.ref a] ∧ (((∃ xs, SqL K H1 a xs) ∧ R (Ite K a) H1) ∨ ((∃ xs, SqT K H1 a xs) ∧ R (IteT K a) H1))
theorem pi_enumA {X : Cx} {e : Expr} {ta : TA} {p pos tpos : Pos} {elts : List Expr} {kk : Nat} (hg : Gl X "enumerate") (hm : X.mg "enumerate" = none) (ha : PA X [e] ta) (hs : starEach [e] X.env = [(false, eval e X.env)] := by rfl) :
    PI X (.Tuple elts kk tpos) (.Call (.Name "enumerate" p) [e] [] pos) (iEnumA X.K ta) := by
  refine ⟨fun pins s σ H R I h => ?_⟩
  refine Call_ (ld_blt I hg hm boot_enumerate (PyProof.Rows.callWith_type1 (thn (ha.run pos pins s σ H _ I h) fun us s1 ⟨vs, H1, I1, r1, q1⟩ => ?_) hs rfl))
  obtain ⟨a, ex, q⟩ := q1
  subst ex
  cases r1 with
  | cons r rr =>
    cases rr
    cases r
    have fp : ∀ b ∈ [s1.heap.objs.size + 1, s1.heap.objs.size], FpOk X pins H1 b := fun b hb => by
      have e' : b = s1.heap.objs.size + 1 ∨ b = s1.heap.objs.size := by simpa using hb
      have hle : s1.heap.objs.size ≤ b := by
        rcases e' with z | z
        · rw [z]; exact Nat.le_add_right _ _
        · rw [z]; exact Nat.le_refl _
      exact I1.fpOk hle (I1.hok.fresh hle)
    rcases q with ⟨⟨xs, hq⟩, q⟩ | ⟨⟨xs, hq⟩, q⟩
    · obtain ⟨its, rv, p', hz⟩ := I1.list hq
      refine call_enumerate_list p'.isList fun h' he hit hsz hk => wpAny_pyIter_enum he ?_
      have I2 : Inv X pins σ H1 { s1 with heap := h' } := I1.kept (t' := s1.toks) hk
      exact ⟨s1.heap.objs.size + 1, [s1.heap.objs.size + 1, s1.heap.objs.size], _, _, H1, rfl, I2, turn_enum a (s1.heap.objs.size + 1) s1.heap.objs.size, ⟨⟨.none, he⟩, hit, Nat.succ_ne_self _⟩, fp, q⟩
    · obtain ⟨its, rv, p', hz⟩ := I1.tuple hq
      refine enum1_begins (begins_tuple a its.toArray) (show s1.heap.IsTuple a its.toArray from p') fun h' he hit hsz hk => wpAny_pyIter_enum he ?_
      have I2 : Inv X pins σ H1 { s1 with heap := h' } := I1.kept (t' := s1.toks) hk
      exact ⟨s1.heap.objs.size + 1, [s1.heap.objs.size + 1, s1.heap.objs.size], _, _, H1, rfl, I2, turn_enumT a (s1.heap.objs.size + 1) s1.heap.objs.size, ⟨⟨.none, he⟩, ⟨_, hit, rfl, rfl⟩, Nat.succ_ne_self _⟩, fp, q⟩
end Eh

namespace Eh
open PySem PySem.Spec PyProof.Rows L2 HotX
/-! ### comprehensions within an except suite -/
theorem next_list_end_hot {prog : Program} {w : World} {A : Around} {E : Value → Shared → Prop} {s : Shared} {it l x1 : Addr} {i : Nat} {items : Array Value} {Q : Option Value → Shared → Prop} (hot : HotAt A x1 s.heap)
    (hit : s.heap.IsListIter it l i) (hl : s.heap.IsList l items) (hx : items[i]? = none) (hxi : x1 ≠ it)
    (hQ : ∀ h', Heap.ExtBut it s.heap h' → Q none { s with heap := h' }) : wpAny (model prog w) A (pyNext (.ref it)) Q E s := by
  obtain ⟨o, ho, hc, hd⟩ := id hit
  obtain ⟨ol, hol, _, nl, hdl⟩ := hl
  obtain ⟨hh, o1, vs1, h1, d1, c1⟩ := hot
  unfold pyNext
  refine wpAny_bind (wpAny_attempt (wpAny_callSpecial?_slot (name := Str.ofString "__next__") hit.typeIs slot_listiter_next
    (wpAny_call_entry slot_listiter_next hit.typeIs entry_listiter_next ?_ (args_listiter_next _))))
  show wpAny _ _ (field (.ref it) 0 >>= _) _ _ s
  refine wpAny_bind (wpAny_field ho hd (x := .ref l) rfl ?_)
  show wpAny _ _ (if (Value.ref l == Value.none) = true then _ else _) _ _ s
  rw [if_neg (show ¬ ((Value.ref l == Value.none) = true) from Bool.false_ne_true)]
  show wpAny _ _ (field (.ref it) 1 >>= _) _ _ s
  refine wpAny_bind (wpAny_field ho hd (x := .int i 0) rfl ?_)
  show wpAny _ _ (seqItems? (.ref l) >>= _) _ _ s
  refine wpAny_bind (wpAny_seqItems hol hdl ?_)
  simp only [Int.toNat_natCast, hx]
  refine wpAny_bind (wpAny_rule (wpAny_bind (wpAny_setField ho hd (by simp) ?_)))
  show wpAny _ _ (newExc (.type "StopIteration") [] >>= _) _ _ _
  refine wpAny_bind ?_
  simp only [newExc, newTuple]
  refine wpAny_bind (wpAny_newObj_type ?_ (by size_fits))
  refine wpAny_bind (m := firstArgMember _ _) (wpAny_of_eq (a := Value.none) (by first | rfl | (simp only [firstArgMember]; rfl)) ?_)
  refine wpAny_newObj_type ?_ (by size_fits)
  have sb : Heap.SameBut it s.heap (s.heap.update it (Obj.mapFields (·.setIfInBounds 0 .none))) := Heap.SameBut.update ..
  have h1' := (sb.2 x1 hxi).trans h1
  refine raiseNew_hot ⟨hh, o1, vs1, Heap.get?_push_of_some _ (Heap.get?_push_of_some _ h1'), d1, c1⟩ (Nat.ne_of_lt (Heap.lt_size (Heap.get?_push_of_some _ h1'))) (Heap.get?_push_size _ rfl) rfl (by first | (simp; done) | (simp; omega) | (simp only [Array.size_append]; simp; omega)) ?_
  refine wpAny_bind (wpAny_isInstance (T := "StopIteration") (b := true) ⟨_, Heap.get?_update_self _ (Heap.get?_push_size _ rfl) rfl, rfl⟩ isSubtype_stop ?_)
  refine wpAny_pure (hQ _ fun b ob hb e => ?_)
  have e' := sb.extBut b ob hb e
  rw [Heap.get?_update_other _ _ (Nat.ne_of_gt (Heap.lt_size (Heap.get?_push_of_some _ e')))]
  exact Heap.get?_push_of_some _ (Heap.get?_push_of_some _ e')
/-- an iterator that turns while an exception is handled -/
structure TurnK (P : Program) (w : World) (K : PySem.W.Frag) (tg : Expr) (J : It) (fp : List Addr) (it : Addr) (tn : Nat → Heap → Prop) : Prop where
  mem : it ∈ fp
  obj : ∀ i h, tn i h → ∀ b ∈ fp, ∃ o, h.get? b = some o ∧ ∀ v, o.data ≠ .cell v
  keep : ∀ i h h', tn i h → (∀ b ∈ fp, ∀ o, h.get? b = some o → h'.get? b = some o) → tn i h'
  item : ∀ (X : Cx), X.prog = P → X.w = w → X.K = K → ∀ (i : Nat) (pins : List (Addr × Obj)) (s : Shared) (σ : L2.St) (H : Hp) (E : Value → Shared → Prop), Inv X pins σ H s → (∀ b ∈ fp, FpOk X pins H b) → tn i s.heap → J.go i H →
    wpAny (model P w) X.A (pyNext (.ref it)) (fun r s1 => ∃ u, r = some u ∧
      wpAny (model P w) X.A (letOwnedTupleGo tg (.ref it) u) (fun _ s2 => ∃ x H', Inv X pins σ H' s2 ∧ RelV x u ∧ J.yld i H x H' ∧ tn (i + 1) s2.heap ∧ ∀ b ∈ fp, H' b = none) E s1) E s
  done : ∀ (X : Cx), X.prog = P → X.w = w → X.K = K → ∀ (x1 : Addr) (i : Nat) (pins : List (Addr × Obj)) (s : Shared) (σ : L2.St) (H : Hp) (E : Value → Shared → Prop), Inv X pins σ H s → HotAt X.A x1 s.heap → x1 ≠ it → (∀ b ∈ fp, FpOk X pins H b) → tn i s.heap → J.stop i H →
    wpAny (model P w) X.A (pyNext (.ref it)) (fun r s1 => r = none ∧ Inv X pins σ H s1) E s
  self : ∀ (A : Around) (i : Nat) (s : Shared) (Q : Value → Shared → Prop) (E : Value → Shared → Prop), tn i s.heap → Q (.ref it) s → wpAny (model P w) A (pyIter (.ref it)) Q E s
theorem turn_listK {P : Program} {w : World} {K : PySem.W.Frag} {tg : Expr} (a it : Addr) : TurnK P w K tg (Itl K a) [it] it (fun i h => h.IsListIter it a i) where
  mem := by simp
  obj := fun i h st b hb => by
    have e : b = it := by simpa using hb
    subst e
    obtain ⟨o, e, c, d⟩ := st
    exact ⟨o, e, fun v z => by rw [d] at z; cases z⟩
  keep := fun i h h' st k => st.at fun o e => k it (by simp) o e
  item := by
    intro X hP hw hK i pins s σ H E I hf st hg
    subst hP hw hK
    obtain ⟨xs, x, hq, hx⟩ := hg
    obtain ⟨its, rv, p, hz⟩ := I.list hq
    obtain ⟨u, hu, ru⟩ := rv.get hx
    obtain ⟨f0, f1, f2, f3, f4, f5⟩ := hf it (by simp)
    refine wpAny_pyNext_list_item st p.isList (x := u) (by simpa using hu) fun h' st' sb => ?_
    have I1 : Inv X pins σ H { s with heap := h' } := I.turned (t' := s.toks) (fun b o hb e => (sb.2 b hb).trans e) f0 f1 f3 f4 f5
    obtain ⟨o, e, c, d⟩ := id st'
    exact ⟨u, rfl, go_of (s := { s with heap := h' }) e c d (by decide) ⟨x, H, I1, ru, ⟨rfl, fun ys hy => by rw [I.list_inj hy hq]; exact hx⟩, st', fun b hb => (hf b hb).1⟩⟩
  done := by
    intro X hP hw hK x1 i pins s σ H E I hot hxi hf st hg
    subst hP hw hK
    obtain ⟨xs, hq, hx⟩ := hg
    obtain ⟨its, rv, p, hz⟩ := I.list hq
    obtain ⟨f0, f1, f2, f3, f4, f5⟩ := hf it (by simp)
    have hl := rv.length
    exact next_list_end_hot hot st p.isList (by simp; omega) hxi fun h' eb => ⟨rfl, I.turned (t' := s.toks) (fun b o hb e => eb b o hb e) f0 f1 f3 f4 f5⟩
  self := fun _ _ _ _ _ st h => wpAny_pyIter_listiter st h
theorem turn_rangeK {P : Program} {w : World} {K : PySem.W.Frag} {tg : Expr} (it : Addr) (lo : Int) (n : Nat) : TurnK P w K tg (Itr lo n) [it] it (fun i h => IsRangeIter h it (lo + (i : Nat) * 1) ((n : Int) - (i : Nat)) 1) where
  mem := by simp
  obj := (L2H.turn_rangeH (P := P) (w := w) (K := K) (tg := tg) it lo n).obj
  keep := (L2H.turn_rangeH (P := P) (w := w) (K := K) (tg := tg) it lo n).keep
  item := by
    intro X hP hw hK i pins s σ H E I hf st hg
    subst hP hw hK
    obtain ⟨f0, f1, f2, f3, f4, f5⟩ := hf it (by simp)
    have hlt : i < n := hg
    refine wpAny_pyNext_range_item st (by omega) fun h' st' sb => ?_
    have st2 : IsRangeIter h' it (lo + ((i + 1 : Nat) : Int) * 1) ((n : Int) - ((i + 1 : Nat) : Int)) 1 := by
      have e1 : lo + ((i : Nat) : Int) * 1 + 1 = lo + ((i + 1 : Nat) : Int) * 1 := by omega
      have e2 : (n : Int) - ((i : Nat) : Int) - 1 = (n : Int) - ((i + 1 : Nat) : Int) := by omega
      rw [← e1, ← e2]
      exact st'
    have I1 : Inv X pins σ H { s with heap := h', toks := s.toks + 1 } := I.turned (fun b o hb e => (sb.2 b hb).trans e) f0 f1 f3 f4 f5
    refine ⟨_, rfl, go_of (s := { s with heap := h', toks := s.toks + 1 }) (n := "range_iterator") st2 rfl rfl (by decide) ⟨.int (lo + i), H, I1, ⟨s.toks, ?_⟩, ⟨rfl, rfl⟩, st2, fun b hb => (hf b hb).1⟩⟩
    rw [Int.mul_one]
  done := by
    intro X hP hw hK x1 i pins s σ H E I hot hxi hf st hg
    subst hP hw hK
    obtain ⟨f0, f1, f2, f3, f4, f5⟩ := hf it (by simp)
    exact pyNext_range_end_hot hot st (by have : n ≤ i := hg; omega) fun h' eb => ⟨rfl, I.turned (t' := s.toks) (fun b o _ e => eb b o e) f0 f1 f3 f4 f5⟩
  self := fun _ _ _ _ _ st h => wpAny_pyIter_rangeiter st h
def PIEK (X : Cx) (pins : List (Addr × Obj)) (σ : L2.St) (tg : Expr) (R : It → Hp → Prop) (itv : Value) (s2 : Shared) : Prop :=
  ∃ (it : Addr) (fp : List Addr) (tn : Nat → Heap → Prop) (J : It) (H' : Hp), itv = .ref it ∧ Inv X pins σ H' s2 ∧ TurnK X.prog X.w X.K tg J fp it tn ∧ tn 0 s2.heap ∧ (∀ b ∈ fp, FpOk X pins H' b) ∧ R J H'
structure PIK (X : Cx) (tg iter : Expr) (wi : TI) : Prop where
  run : ∀ (pins : List (Addr × Obj)) (s : Shared) (σ : L2.St) (H : Hp) (R : It → Hp → Prop), Inv X pins σ H s → wi σ H R →
    wpAny (model X.prog X.w) X.A (eval iter X.env) (fun v s1 => wpAny (model X.prog X.w) X.A (pyIter v) (PIEK X pins σ tg R) X.xe s1) X.xe s
theorem pi_listK {X : Cx} {tg l : Expr} {tl : TE} (hl : PE X l tl) : PIK X tg l (iList X.K tl) := by
  refine ⟨fun pins s σ H R I h => ?_⟩
  refine thn (hl.run pins s σ H _ I h) fun v s1 ⟨x, H1, I1, r1, q1⟩ => ?_
  obtain ⟨a, e, ⟨xs, hq⟩, q⟩ := q1
  subst e
  cases r1
  obtain ⟨its, rv, p, hz⟩ := I1.list hq
  refine wpAny_pyIter_list p.isList ?_
  refine ⟨s1.heap.objs.size, [s1.heap.objs.size], _, _, H1, rfl, I1.kept (t' := s1.toks) fun b o e => Heap.get?_push_of_some _ e, turn_listK a _, ⟨_, Heap.get?_push_size _ rfl, rfl, rfl⟩, fun b hb => ?_, q⟩
  have e : b = s1.heap.objs.size := by simpa using hb
  subst e
  exact I1.fpOk (Nat.le_refl _) (I1.hok.fresh (Nat.le_refl _))
theorem pi_range1K {X : Cx} {tg a : Expr} {ta : TA} {p pos : Pos} (hg : Gl X "range") (hm : X.mg "range" = none) (ha : PA X [a] ta) (hs : starEach [a] X.env = [(false, eval a X.env)] := by rfl) : PIK X tg (.Call (.Name "range" p) [a] [] pos) (iRng1 ta) := by
  refine ⟨fun pins s σ H R I h => ?_⟩
  refine Call_ (ld_blt I hg hm boot_range (PyProof.Rows.callWith_type1 (thn (ha.run pos pins s σ H _ I h) fun us s1 ⟨vs, H1, I1, r1, q1⟩ => ?_) hs rfl))
  obtain ⟨j, e, q1, q2, q⟩ := q1
  subst e
  cases r1 with
  | cons r rr =>
    cases rr
    obtain ⟨t, rfl⟩ := r
    refine call_range_1 (wpAny_pyIter_range (IsRange.new ..) (small_one (by omega) (by omega) q1 q2) ?_)
    have I2 : Inv X pins σ H1 { s1 with heap := s1.heap.push { cls := .type "range", data := .fields #[.int 0 s1.toks, .int j t, .int 1 (s1.toks + 1)] }, toks := s1.toks + 1 + 1 } := I1.kept fun b o e => Heap.get?_push_of_some _ e
    refine ⟨_, [_], _, _, H1, rfl, I2.kept (t' := s1.toks + 1 + 1) fun b o e => Heap.get?_push_of_some _ e, turn_rangeK _ 0 j.toNat, ?_, fun b hb => ?_, q⟩
    · have e1 : (0 : Int) + ((0 : Nat) : Int) * 1 = 0 := by omega
      have e2 : ((j.toNat : Nat) : Int) - ((0 : Nat) : Int) = Builtin.Range.rangeSize 0 j 1 := by rw [rangeSize_one]; split <;> omega
      show IsRangeIter _ _ ((0 : Int) + ((0 : Nat) : Int) * 1) (((j.toNat : Nat) : Int) - ((0 : Nat) : Int)) 1
      rw [e1, e2]
      exact Heap.get?_push_size _ rfl
    · have e := List.mem_singleton.mp hb
      subst e
      exact I2.fpOk (Nat.le_refl _) (I2.hok.fresh (Nat.le_refl _))

section
variable {X : Cx}
/-- the block of a comprehension in a suite, p the handled exception -/
theorem lc_coreK {pins : List (Addr × Obj)} {s : Shared} {σ : L2.St} {H : Hp} {Q : VK} {elt tg iter : Expr} {ifs : List Expr} {scope : Scope} {own : List (Str × Nat)} {pos : Pos} {wi : TI} {g : TG} {tt : TT} {te : TE} {p : Addr × Obj}
    (hp : L2H.Hot1 X.A p) (hpn : p ∈ X.pn) (hN : X.N.Nodup) (I : Inv X pins σ H s) (hi : PIK X tg iter wi) (ok : BlkOk X.N X.env.scope scope own)
    (hg : ∀ (s : Shared) (H : Hp) (C : Addr) (cl : List (Str × Addr)) (fp : List Addr), PG (X.blk s H scope (compEnvC scope cl C X.env) fp) tg g) (ht : ∀ (s : Shared) (H : Hp) (C : Addr) (cl : List (Str × Addr)) (fp : List Addr), PTs (X.blk s H scope (compEnvC scope cl C X.env) fp) ifs tt)
    (he : ∀ (s : Shared) (H : Hp) (C : Addr) (cl : List (Str × Addr)) (fp : List Addr), PE (X.blk s H scope (compEnvC scope cl C X.env) fp) elt te) (hs : ∀ x, foldedSetIterable iter X.env x = pure x)
    (h : tLc wi g tt te (own.map (·.2)) σ H Q) :
    wpAny (model X.prog X.w) X.A (eval (.ListComp elt [⟨tg, iter, ifs, 0⟩] scope pos) X.env) (EP X pins σ Q) X.xe s := by
  rw [eval_ListComp]
  have hfree : ∀ y ∈ scope.names, y.2 = .free → ∃ c, X.env.cells.lookup y.1 = some c := fun y hy e => by
    rcases ok.free y hy e with k | k
    · exact I.ok.has _ (.inl k)
    · exact I.ok.has _ (.inr k)
  refine wpAny_comprehension_free rfl hs (closure_ok hfree) ok.kind (fun y hy e => by rw [ok.uniq y hy, e])
    (thn (hi.run pins s σ H _ I h) fun xv s1 hx => thn hx fun itv s2 h2 => ?_)
  obtain ⟨it, fp, tn, J, H2, e, I2, T, st2, f2, q⟩ := h2
  subst e
  refine wpAny_newObj_type (newEnv_comp ?_) (by show 0 ≤ sizeLine; decide)
  generalize hD : s2.heap.objs.size = D
  have hDn : H2 D = none := I2.hok.fresh (Nat.le_of_eq hD)
  obtain ⟨W, ⟨m0, w0⟩, turn⟩ := q D hDn
  generalize hs3 : ({ s2 with heap := s2.heap.push { cls := .type "list", data := .seq ([] : List Value).toArray } } : Shared) = s3
  have I3 : Inv X pins σ (upd H2 D (.lst [])) s3 := by
    rw [← hs3]
    refine I2.laid (t' := s2.toks) (fun b o e => Heap.get?_push_of_some _ e) (Nat.le_of_eq hD) ⟨Nat.zero_le _, [], 0, .nil, ?_⟩
    rw [← hD]
    exact Heap.get?_push_size _ rfl
  have h3 : s3.heap = s2.heap.push { cls := .type "list", data := .seq ([] : List Value).toArray } := by rw [← hs3]
  have sz : ∀ b ∈ fp, b < s2.heap.objs.size := fun b hb => by
    obtain ⟨o, e, _⟩ := T.obj _ _ st2 b hb
    exact Heap.lt_size e
  have f3 : ∀ b ∈ fp, FpOk X pins (upd H2 D (.lst [])) b ∧ b < s3.heap.objs.size := fun b hb => by
    have hlt := sz b hb
    refine ⟨⟨?_, (f2 b hb).2⟩, by rw [h3, Heap.size_push]; exact Nat.lt_succ_of_lt hlt⟩
    rw [upd_ne (by rw [← hD]; exact Nat.ne_of_lt hlt)]
    exact (f2 b hb).1
  have pa : ∀ b ∈ fp, p.1 ≠ b := fun b hb => (f2 b hb).2.2.2.2.2 p (List.mem_append_left _ hpn)
  have st3 : tn 0 s3.heap := T.keep _ _ _ st2 fun b _ o e => by rw [h3]; exact Heap.get?_push_of_some _ e
  have I4 := block_start I3 ok hN f3
  have pin3 := I3.pin p (List.mem_append_left _ hpn)
  have pg := hg s3 (upd H2 D (.lst [])) s3.heap.objs.size (cellsFrom (s3.heap.objs.size + 1) scope.names (cloFrom X.env.cells scope.names [])) fp
  have pt := ht s3 (upd H2 D (.lst [])) s3.heap.objs.size (cellsFrom (s3.heap.objs.size + 1) scope.names (cloFrom X.env.cells scope.names [])) fp
  have pe := he s3 (upd H2 D (.lst [])) s3.heap.objs.size (cellsFrom (s3.heap.objs.size + 1) scope.names (cloFrom X.env.cells scope.names [])) fp
  show codeAny _ _ (.compStart (.ListComp elt [⟨tg, iter, ifs, 0⟩] scope pos) 0 (.ref it) (.ref D) (compEnvC scope (cellsFrom (s3.heap.objs.size + 1) scope.names (cloFrom X.env.cells scope.names [])) s3.heap.objs.size X.env)) (compPost (model X.prog X.w) X.A X.xe none (EP X pins σ Q) (.ref D) s3.heap.objs.size) { s3 with heap := pushCells (s3.heap.push { cls := .type "dict", data := .dict #[] }) scope.names }
  have nfp : ∀ b ∈ fp, (upd H2 D (.lst [])) b = none := fun b hb => (f3 b hb).1.1
  generalize hce : compEnvC scope (cellsFrom (s3.heap.objs.size + 1) scope.names (cloFrom X.env.cells scope.names [])) s3.heap.objs.size X.env = ce at I4 pg pt pe ⊢
  have cL : ce.locals = s3.heap.objs.size := by subst hce; rfl
  generalize hH3 : upd H2 D (.lst []) = H3 at I3 I4 pg pt pe w0 nfp f3 pin3
  generalize hs4 : ({ s3 with heap := pushCells (s3.heap.push { cls := .type "dict", data := .dict #[] }) scope.names } : Shared) = s4 at I4 ⊢
  have k34 : ∀ b o, s3.heap.get? b = some o → s4.heap.get? b = some o := fun b o e => by rw [← hs4]; exact pushCells_keeps _ _ _ _ (Heap.get?_push_of_some _ e)
  have st4 : tn 0 s4.heap := T.keep _ _ _ st3 fun b _ o e => k34 b o e
  have J4 : Inv (X.blk s3 H3 scope ce fp) [p] (L2.wipe σ (own.map (·.2))) H3 s4 := I4.pins_of fun q hq => by
    have e := List.mem_singleton.mp hq
    subst e
    obtain ⟨e1, e2, e3, e4, e5⟩ := pin3
    refine ⟨k34 _ _ e1, e2, fun z => ?_, fun z => ?_, e5⟩
    · have z' : q.1 = s3.heap.objs.size := z.trans cL
      exact absurd (Heap.lt_size e1) (by rw [z']; exact Nat.lt_irrefl _)
    · exact (fun z2 => (List.mem_cons.mp z2).elim e3 e4) (I3.stkSub q.1 z)
  have hotAt : ∀ {σ' : L2.St} {H' : Hp} {s' : Shared} {ps : List (Addr × Obj)}, Inv (X.blk s3 H3 scope ce fp) ([p] ++ ps) σ' H' s' → HotAt X.A p.1 s'.heap := fun {σ' H' s' ps} I' => by
    obtain ⟨hh, v1, e1, c1⟩ := hp
    exact ⟨hh, p.2, v1, (I'.pin p (List.mem_append_right _ (List.mem_append_left _ (by simp)))).1, e1, c1⟩
  have stat : ∀ {σ' : L2.St} {H' : Hp} {s' : Shared}, Inv (X.blk s3 H3 scope ce fp) [p] σ' H' s' → (∀ b ∈ fp, H' b = none) → ∀ b ∈ fp, FpOk (X.blk s3 H3 scope ce fp) [p] H' b := fun {σ' H' s'} I' hn b hb =>
    ⟨hn b hb, (I'.ok.exf b hb).1, I'.ok.exfs b hb, .inl hb, fun x c e => (I'.ok.exf b hb).2 x c e, fun q hq => by
      have e : q = p := List.mem_singleton.mp (show q ∈ [p] from hq)
      subst e
      exact pa b hb⟩
  have loop : codeAny (model X.prog X.w) X.A (.compLoop (.ListComp elt [⟨tg, iter, ifs, 0⟩] scope pos) 0 (.ref it) (.ref D) ce) (compPost (model X.prog X.w) X.A X.xe none (EP X pins σ Q) (.ref D) s3.heap.objs.size) s4 := by
    refine compLoop_any (fun n s' => ∃ i H', Inv (X.blk s3 H3 scope ce fp) [p] (L2.wipe σ (own.map (·.2))) H' s' ∧ tn i s'.heap ∧ (∀ b ∈ fp, H' b = none) ∧ W i n H') ?_ m0 ⟨0, H3, J4, st4, nfp, w0⟩
    rintro n s5 ⟨i, H5, I5, st5, n5, w5⟩
    rcases turn i n H5 w5 with ⟨stop, qq⟩ | ⟨go, Nx, hNx, step⟩
    · have td := T.done (X.blk s3 H3 scope ce fp) rfl rfl rfl p.1 i [p] s5 _ H5 (fun _ _ => False) I5 (hotAt (ps := []) (by simpa using I5)) (pa it T.mem) (stat I5 n5) st5 stop
      refine thnF td fun r s6 ⟨hr, I6⟩ => ?_
      subst hr
      have I7 : Inv X pins σ H5 s6 := I3.call' (ch := fp) I6.os I6.base I6.hok I6.bare fun b hb => ⟨(f3 b hb).1.2.2.2.1, (f3 b hb).1.2.1, (f3 b hb).1.2.2.2.2.1, (f3 b hb).1.2.2.2.2.2⟩
      have nC : H5 s3.heap.objs.size = none := by
        have z : H5 ce.locals = none := I6.free
        rw [cL] at z
        exact z
      obtain ⟨m, hn, _⟩ := I6.loc
      have hn : s6.heap.Ns ce.locals m := hn
      rw [cL] at hn
      obtain ⟨f0, f1, f2', f3', f4, f5⟩ := I3.fpOk (Nat.le_refl _) nC
      exact ⟨m, hn, fun h'' sb => ⟨.ref D, H5, I7.turned (t' := s6.toks) (fun b o hb e => (sb.2 b hb).trans e) f0 f1 f3' f4 f5, rfl, qq⟩⟩
    · have ti := T.item (X.blk s3 H3 scope ce fp) rfl rfl rfl i [p] s5 _ H5 (fun _ _ => False) I5 (stat I5 n5) st5 go
      refine thnF ti fun r s6 ⟨u, hr, h6⟩ => ?_
      subst hr
      refine thnF h6 fun _ s7 ⟨x, H7, I7, r7, y7, st7, n7⟩ => ?_
      have I7' := I7.pinned (stat I7 n7) (T.obj _ _ st7)
      refine thnF (pg.run _ s7 _ H7 x u _ I7' r7 (step x H7 y7)) fun _ s8 ⟨σ8, H8, I8, hw8, q8⟩ => ?_
      refine thnF (pt.run _ s8 σ8 H8 _ I8 q8) fun b s9 ⟨H9, I9, q9⟩ => ?_
      have fin : ∀ {s' : Shared} {H' : Hp}, Inv (X.blk s3 H3 scope ce fp) ([p] ++ pinsAt fp s7.heap) σ8 H' s' → Nx H' → ∃ m, m < n ∧ ∃ i H', Inv (X.blk s3 H3 scope ce fp) [p] (L2.wipe σ (own.map (·.2))) H' s' ∧ tn i s'.heap ∧ (∀ b ∈ fp, H' b = none) ∧ W i m H' := fun {s' H'} I' nx => by
        obtain ⟨m', hm, w'⟩ := hNx H' nx
        have pin' : ∀ b ∈ fp, ∀ o, s7.heap.get? b = some o → s'.heap.get? b = some o ∧ H' b = none := fun b hb o e =>
          let z := I'.pin (b, o) (List.mem_append_right _ (List.mem_append_right _ (mem_pinsAt hb e)))
          ⟨z.1, z.2.1⟩
        have hl : (L2.wipe σ (own.map (·.2))).length = σ8.length := by rw [← hw8, wipe_length]
        refine ⟨m', hm, i + 1, H', (I'.unpinned (pins := [p])).weak hl (fun j v e => ?_), T.keep _ _ _ st7 fun b hb o e => (pin' b hb o e).1, fun b hb => ?_, w'⟩
        · rw [← hw8] at e
          exact (wipe_some e).1
        · obtain ⟨o, e, _⟩ := T.obj _ _ st7 b hb
          exact (pin' b hb o e).2
      cases b with
      | false =>
        simp only [Bool.false_eq_true, if_false] at q9 ⊢
        exact fin I9 q9
      | true =>
        simp only [if_true] at q9 ⊢
        refine thnF (pe.run _ s9 σ8 H9 _ I9 q9) fun z s10 ⟨yv, H10, I10, r10, acc, hD10, hz10, nx⟩ => ?_
        exact app_ok (X := X.blk s3 H3 scope ce fp) I10 hD10 hz10 r10 fun s11 I11 => fin I11 nx
  exact codeAny_compStart_list loop (T.self X.A 0 _ _ _ st4 loop)
theorem pe_lcK {elt tg iter : Expr} {ifs : List Expr} {scope : Scope} {own : List (Str × Nat)} {pos : Pos} {wi : TI} {g : TG} {tt : TT} {te : TE} (hc : L2H.HotC X) (hN : X.N.Nodup) (hi : PIK X tg iter wi) (ok : BlkOk X.N X.env.scope scope own)
    (hg : ∀ (s : Shared) (H : Hp) (C : Addr) (cl : List (Str × Addr)) (fp : List Addr), PG (X.blk s H scope (compEnvC scope cl C X.env) fp) tg g) (ht : ∀ (s : Shared) (H : Hp) (C : Addr) (cl : List (Str × Addr)) (fp : List Addr), PTs (X.blk s H scope (compEnvC scope cl C X.env) fp) ifs tt)
    (he : ∀ (s : Shared) (H : Hp) (C : Addr) (cl : List (Str × Addr)) (fp : List Addr), PE (X.blk s H scope (compEnvC scope cl C X.env) fp) elt te) (hs : ∀ x, foldedSetIterable iter X.env x = pure x := by intro _; rfl) :
    PE X (.ListComp elt [⟨tg, iter, ifs, 0⟩] scope pos) (tLc wi g tt te (own.map (·.2))) := by
  refine ⟨fun pins s σ H Q I h => ?_⟩
  obtain ⟨p, hp, hpn⟩ := hc
  exact lc_coreK hp hpn hN I hi ok hg ht he hs h
end
end Eh

namespace Eh
open PySem PySem.Spec PyProof.Rows L2

/-! ### defs of the text, called -/
theorem passN {X : Cx} : Passes (L2N.CX X.prog X.w) X E0 := fun _ _ _ _ _ _ _ h => by
  obtain ⟨_, _, _, _, _, _, _, _, _, _, _, _, z⟩ := h
  exact z.elim
structure Cl (P : Program) (w : World) (K : PySem.W.Frag) (mg : Str → Option Value) (base : Heap) (k : Nat) (x : Str) (sp : Sp) : Prop where
  ex : ∃ f fd ps, FnOk P w K mg base (L2N.CX P w) k f fd ps sp ∧ mg x = some (.ref f) ∧ PySem.W.keepIn K (.ref f) = true ∧ Binds K fd ps []
section
variable {X : Cx}
theorem dCall {k j : Nat} {x : Str} {sp : Sp} {E : XK} {e : Expr} {es : List Expr} {t : TA} {p pos : Pos} (c : Cl X.prog X.w X.K X.mg X.base k x sp) (hr : Room j X.A) (hk : k ≤ j) (hg : Gl X x) (hx : Passes (L2N.CX X.prog X.w) X E) (ha : PA X (e :: es) t)
    (hdb : (x == ("__debug__" : Str)) = false := by decide) (he : starEach (e :: es) X.env = (false, eval e X.env) :: starEach es X.env := by rfl) (hpl : (backTo pos (starEach es X.env)).any (·.1) = false := by rfl) :
    PE X (.Call (.Name x p) (e :: es) [] pos) (tCall sp [] E t) := by
  obtain ⟨f, fd, ps, F, m, kp, b⟩ := c.ex
  exact pe_call F (hr.mono hk) hg m kp b .nil hx ha hdb he hpl
theorem dCall0 {k j : Nat} {x : Str} {sp : Sp} {E : XK} {p pos : Pos} (c : Cl X.prog X.w X.K X.mg X.base k x sp) (hr : Room j X.A) (hk : k ≤ j) (hg : Gl X x) (hx : Passes (L2N.CX X.prog X.w) X E)
    (hdb : (x == ("__debug__" : Str)) = false := by decide) : PE X (.Call (.Name x p) [] [] pos) (tCall sp [] E tNil) := by
  obtain ⟨f, fd, ps, F, m, kp, b⟩ := c.ex
  exact pe_call0 F (hr.mono hk) hg m kp b .nil hx hdb
theorem dGlobI {x : Str} {i : Int} {pos : Pos} (hg : Gl X x) (h : ∃ t, X.mg x = some (.int i t)) (hd : (x == ("__debug__" : Str)) = false := by decide) : PE X (.Name x pos) (tC (.int i)) := by
  obtain ⟨t, e⟩ := h
  exact pe_glob hg e ⟨t, rfl⟩ hd
/-- in, not in: flat items, or data of any depth in a list -/
def rInA (K : PySem.W.Frag) : R2 := fun x y H Q => rIn K false x y H Q ∨ rInD K x y H Q
def rNiA (K : PySem.W.Frag) : R2 := fun x y H Q => rIn K true x y H Q ∨ rNotInD K x y H Q
theorem oIn (hu : X.A.units + 64 + 1 < cLine) : OpR X (compareOp .In) (rInA X.K) := op_in_seq.or (op_inD hu)
theorem oNi (hu : X.A.units + 64 + 1 < cLine) : OpR X (compareOp .NotIn) (rNiA X.K) := op_notIn_seq.or (op_notInD hu)
end
/-- what the text says of an own error -/
def ExcF (K : PySem.W.Frag) (C : Addr) : Prop := PySem.W.excIn K C [.type "ValueError", .type "Exception", .type "BaseException", .type "object"] "ValueError.__new__" = true ∧ PySem.W.keepIn K (.ref C) = true ∧
  PySem.W.subIn K (.ref C) (.type "BaseException") = some true ∧ PySem.W.typeIn K (.ref C) = some (.type "type")
theorem hu1 {j : Nat} {A : Around} (hr : Room j A) : A.units + 64 + 1 < cLine := by
  have := hr.un
  omega
/-- a def's promise from its body -/
theorem cl_of {P : Program} {w : World} {K : PySem.W.Frag} {mg : Str → Option Value} {base : Heap} {k : Nat} {x : Str} {sp : Sp} {params : Arguments} {body : List Stmt} {scope : Scope} {f : Addr} {N ps : List Str} {t : XK → TS}
    (F : ∃ fd, FunD K x x params body scope [] [] f fd) (g : mg x = some (.ref f)) (S : FnScope N ps scope)
    (hb : ∀ (kV doc pm : Value) (an : Option Addr) (cdv ct : Value) (us : List Value), us.length = ps.length → bindArgs (PySem.W.fnOf x x params body scope .none kV doc pm an cdv ct) ⟨us, []⟩ = pure (ps.zip us))
    (len : ∀ vs H Q E, sp vs H Q E → vs.length = ps.length)
    (der : ∀ (cdv : Value) (A : Around) (outer : List Env) (s : Shared) (H : Hp) (E : XK), Room k (A.deeper (envOfC x scope s.heap.objs.size f cdv)) → PSs (cxOf (L2N.CX P w) P w K mg base N x scope f cdv A outer s H E) body (t E))
    (pure_ : ∀ vs H Q E, sp vs H Q E → t E { nx := fun _ H' => Q .non H', rt := Q } (L2.start N vs) H) : Cl P w K mg base (k + 1) x sp := by
  obtain ⟨fd, F⟩ := F
  exact ⟨f, fd, ps, F.ok S len fun cdv A outer s H vs Q E hr h => ⟨t E, der cdv A outer s H E hr, pure_ vs H Q E h⟩, g, F.kp, F.bindsN hb⟩
/-- a def that takes calls of itself: below every depth nothing is promised -/
theorem cl_bot {P : Program} {w : World} {K : PySem.W.Frag} {mg : Str → Option Value} {base : Heap} {x : Str} {params : Arguments} {body : List Stmt} {scope : Scope} {f : Addr} {ps : List Str} {sp : Sp} (hs : ∀ vs H Q E, ¬ sp vs H Q E)
    (F : ∃ fd, FunD K x x params body scope [] [] f fd) (g : mg x = some (.ref f))
    (hb : ∀ (kV doc pm : Value) (an : Option Addr) (cdv ct : Value) (us : List Value), us.length = ps.length → bindArgs (PySem.W.fnOf x x params body scope .none kV doc pm an cdv ct) ⟨us, []⟩ = pure (ps.zip us)) : Cl P w K mg base 0 x sp := by
  obtain ⟨fd, F⟩ := F
  exact ⟨f, fd, ps, ⟨fun vs H Q E h => (hs _ _ _ _ h).elim, fun _ _ _ _ _ _ _ _ _ _ _ _ _ h => (hs _ _ _ _ h).elim⟩, g, F.kp, F.bindsN hb⟩
/-- the law's def -/
theorem fnok_of {P : Program} {w : World} {K : PySem.W.Frag} {mg : Str → Option Value} {base : Heap} {k : Nat} {x : Str} {sp : Sp} {params : Arguments} {body : List Stmt} {scope : Scope} {f : Addr} {fd : FuncData} {N ps : List Str} {t : XK → TS}
    (F : FunD K x x params body scope [] [] f fd) (S : FnScope N ps scope) (len : ∀ vs H Q E, sp vs H Q E → vs.length = ps.length)
    (der : ∀ (cdv : Value) (A : Around) (outer : List Env) (s : Shared) (H : Hp) (E : XK), Room k (A.deeper (envOfC x scope s.heap.objs.size f cdv)) → PSs (cxOf (L2N.CX P w) P w K mg base N x scope f cdv A outer s H E) body (t E))
    (pure_ : ∀ vs H Q E, sp vs H Q E → t E { nx := fun _ H' => Q .non H', rt := Q } (L2.start N vs) H) : FnOk P w K mg base (L2N.CX P w) (k + 1) f fd ps sp :=
  F.ok S len fun cdv A outer s H vs Q E hr h => ⟨t E, der cdv A outer s H E hr, pure_ vs H Q E h⟩
theorem spR_len {R : List PyData → Out → Prop} {n : Nat} (h : ∀ ds o, R ds o → ds.length = n) : ∀ vs H Q E, spR R vs H Q E → vs.length = n := fun vs H Q E ⟨F, ds, o, _, r, hR, _⟩ => r.length.trans (h ds o hR)
theorem spN_len {R : List PyData → List PyData → Prop} {n : Nat} (h : ∀ ds o, R ds o → ds.length = n) : ∀ vs H Q E, spN R vs H Q E → vs.length = n := fun vs H Q E ⟨F, ds, o, _, r, hR, _⟩ => r.length.trans (h ds o hR)
theorem cxn_false {P : Program} {w : World} {H : Hp} {s : Shared} {e : Value} {s' : Shared} (h : L2N.CX P w [] H s (fun _ _ _ => False) e s') : False := by
  obtain ⟨_, _, _, _, _, _, _, _, _, _, _, _, z⟩ := h
  exact z
/-- the law's walk, its errors' context at each world -/
theorem walkE {l : PySem.W.OpenLaw} {n k : Nat} {q : Program} {loose : List Str} {XP : (Str → Option Value) → Heap → Prop} {YP : World → Heap → Prop} {d : DefRec} {CX : World → CXT} {x : Str}
    (hn : l.most = some n) (hn2 : n ≤ sizeLine) (hdf : d.params.defaults = []) (hr : Room k callerA)
    (F : ∀ (w : World) (mg : Str → Option Value) (fa : Addr) (h : Heap), YP w h → h.Ns mainGlobals mg → mg d.name = some (.ref fa) →
      ∃ (K : PySem.W.Frag) (fd : FuncData) (sp : Sp), K.In h ∧ (∀ (s : Shared) (u : Value), BindsTo s fd ⟨[u], []⟩ [(x, u)]) ∧
        (∀ (H : Hp) (a : Addr) (ns : List Int), ns.length ≤ n → Only H → SqL K H a (ns.map V.int) → sp [.ref a] H (fun v _ => v = .bl true) fun _ _ _ => False) ∧
        ∀ base : Heap, K.In base → base.Ns mainGlobals mg → FnOk l.prog w K mg base (CX w) k fa fd [x] sp)
    (hCX : ∀ (w : World) (H : Hp) (s : Shared) (e : Value) (s' : Shared), CX w [] H s (fun _ _ _ => False) e s' → False) :
    PySem.W.WalkO q loose XP YP l.row.toRowW d [] (fun f vs => PySem.call f vs) := by
  refine Att.attach_call hn hdf fun w s₀ s₁ mg mb fa o pm cd doc a vs ns G Y ho hd hcd hmg hobj hints hlen hg => ?_
  obtain ⟨K, fd, sp, KX, hb, hsp, hF⟩ := F w mg fa _ Y G.T.g hmg
  exact law_call KX G.T.g G.T.b G.T.builtins G.T.nolimit hg hobj hints (Nat.le_trans hlen hn2) hr hF hb (fun H hO hS => hsp H a ns hlen hO hS) fun H e s' => hCX w H s₁ e s'

end Eh

namespace Eh
open PySem PySem.Spec PyProof.Rows L2

/-! ### what an expression gives whose draws may give anything within their bounds -/
def EvQ (C : Pc) (te : TE) (Γ : List Sl) (P : Hp → Hp → V → Hp → Hp → Prop) : Prop :=
  ∀ (B F H : Hp) (σ : L2.St), Wd C F H → Gm C B F H σ Γ → ∀ Q : VK, (∀ v F' H', Grow C.S F H F' H' → Wd C F' H' → P F H v F' H' → Q v H') → te σ H Q
def EvR (C : Pc) (te : TE) (Γ : List Sl) (P : PyData → Prop) : Prop := EvQ C te Γ fun _ _ v F' _ => ∃ d, P d ∧ Rp F' v d
def EvI (C : Pc) (te : TE) (Γ : List Sl) (P : Int → Prop) : Prop := EvQ C te Γ fun _ _ v _ _ => ∃ i, P i ∧ v = .int i
def EnR (C : Pc) (te : TE) (Γ : List Sl) (P : List PyData → Prop) : Prop :=
  EvQ C te Γ fun _ H v F' H' => ∃ p vs ds, v = .ref p ∧ H p = none ∧ F' p = none ∧ p ∉ C.S ∧ H' p = some (.lst vs) ∧ P ds ∧ RpAll F' vs ds
def RsR (C : Pc) (te : TE) (Γ : List Sl) (P : List PyData → Prop) : Prop :=
  EvQ C te Γ fun _ _ v F' H' => ∃ p vs ds, v = .ref p ∧ p ∉ C.S ∧ (H' p = some (.lst vs) ∨ H' p = some (.tup vs)) ∧ P ds ∧ RpAll F' vs ds
def EvTR (C : Pc) (tt : TT) (Γ : List Sl) (P : Bool → Prop) : Prop :=
  ∀ (B F H : Hp) (σ : L2.St), Wd C F H → Gm C B F H σ Γ → ∀ Q : Bool → Hp → Prop, (∀ b F' H', Grow C.S F H F' H' → Wd C F' H' → P b → Q b H') → tt σ H Q
def EvAR (C : Pc) (ta : TA) (Γ : List Sl) (P : List PyData → Prop) : Prop :=
  ∀ (B F H : Hp) (σ : L2.St), Wd C F H → Gm C B F H σ Γ → ∀ Q : List V → Hp → Prop, (∀ vs F' H' ds, Grow C.S F H F' H' → Wd C F' H' → P ds → RpAll F' vs ds → Q vs H') → ta σ H Q
theorem Grow.fresh' {S : List Addr} {F H F' H' : Hp} {p : Addr} (a : Grow S F H F' H') (h : H' p = none) : H p = none := by
  cases q : H p with
  | none => rfl
  | some u => exact absurd h (a.th p (by rw [q]; exact fun z => nomatch z))
section
variable {C : Pc} {te ta tb : TE} {tt tu : TT} {ts : TA} {Γ : List Sl} {d x y : PyData} {ds es : List PyData} {P P' : PyData → Prop} {K : PySem.W.Frag} {E : XK}
theorem EvP.q {P : Hp → Hp → V → Hp → Hp → Prop} (h : EvP te Γ P) : EvQ C te Γ P := fun B F H σ w g Q q => h C B F H σ w g Q fun v F' H' gr p => q v F' H' gr.weak (w.grow gr) p
theorem EvQ.imp {P P' : Hp → Hp → V → Hp → Hp → Prop} (h : EvQ C te Γ P) (i : ∀ F H v F' H', Wd C F H → Grow C.S F H F' H' → Wd C F' H' → P F H v F' H' → P' F H v F' H') : EvQ C te Γ P' :=
  fun B F H σ w g Q q => h B F H σ w g Q fun v F' H' gr w' p => q v F' H' gr w' (i F H v F' H' w gr w' p)
theorem EvD.r (h : EvD te Γ d) : EvR C te Γ (fun x => x = d) := (EvP.q h).imp fun _ _ v F' _ _ _ _ r => ⟨d, rfl, r⟩
theorem EvD.i {i : Int} (h : EvD te Γ (.int i)) : EvI C te Γ (fun k => k = i) := (EvP.q h).imp fun _ _ v F' _ _ _ _ r => ⟨i, rfl, r.int_inv⟩
theorem EvN.r (h : EvN te Γ ds) : EnR C te Γ (fun x => x = ds) := (EvP.q h).imp fun _ H v F' _ w _ _ ⟨p, vs, e, n, f, l, r⟩ => ⟨p, vs, ds, e, n, f, fun z => w.sH p z n, l, rfl, r⟩
theorem EvR.imp (h : EvR C te Γ P) (i : ∀ d, P d → P' d) : EvR C te Γ P' := EvQ.imp h fun _ _ _ _ _ _ _ _ ⟨d, p, r⟩ => ⟨d, i d p, r⟩
theorem EvI.imp {P P' : Int → Prop} (h : EvI C te Γ P) (i : ∀ k, P k → P' k) : EvI C te Γ P' := EvQ.imp h fun _ _ _ _ _ _ _ _ ⟨d, p, r⟩ => ⟨d, i d p, r⟩
theorem EnR.imp {P P' : List PyData → Prop} (h : EnR C te Γ P) (i : ∀ k, P k → P' k) : EnR C te Γ P' := EvQ.imp h fun _ _ _ _ _ _ _ _ ⟨p, vs, ds, a, b, c, s, d, e, f⟩ => ⟨p, vs, ds, a, b, c, s, d, i ds e, f⟩
theorem EvTR.imp {P P' : Bool → Prop} (h : EvTR C tt Γ P) (i : ∀ k, P k → P' k) : EvTR C tt Γ P' := fun B F H σ w g Q q => h B F H σ w g Q fun b F' H' g1 w1 p => q b F' H' g1 w1 (i b p)
theorem EvI.r {P : Int → Prop} (h : EvI C te Γ P) : EvR C te Γ (fun d => ∃ i, P i ∧ d = .int i) := EvQ.imp h fun _ _ v F' _ _ _ _ ⟨i, p, e⟩ => ⟨.int i, ⟨i, p, rfl⟩, e ▸ .int i⟩
theorem EvR.int {P : Int → Prop} (h : EvR C te Γ (fun d => ∃ i, P i ∧ d = .int i)) : EvI C te Γ P := EvQ.imp h fun _ _ v F' _ _ _ _ ⟨d, ⟨i, p, e⟩, r⟩ => ⟨i, p, by subst e; exact r.int_inv⟩
theorem EnR.fz {P : List PyData → Prop} (h : EnR C te Γ P) : EvR C te Γ (fun d => ∃ ds, P ds ∧ d = .list ds) := fun B F H σ w g Q q =>
  h B F H σ w g Q fun v F' H' gr w' ⟨p, vs, ds, e, n, f, s, l, pp, r⟩ => by
    subst e
    exact q _ (upd F' p (.lst vs)) H' (gr.freeze n l f) (w'.freeze s l f) ⟨.list ds, ⟨ds, pp, rfl⟩, .lst upd_same (r.mono (Sub.new f))⟩
theorem EnR.s {P : List PyData → Prop} (h : EnR C te Γ P) : RsR C te Γ P := EvQ.imp h fun _ _ _ _ _ _ _ _ ⟨p, vs, ds, a, b, c, s, d, e, f⟩ => ⟨p, vs, ds, a, s, .inl d, e, f⟩
theorem EvR.ls {P : List PyData → Prop} (h : EvR C te Γ (fun d => ∃ ds, P ds ∧ d = .list ds)) : RsR C te Γ P := EvQ.imp h fun _ _ _ _ _ w gr w' ⟨d, ⟨ds, p, e⟩, r⟩ => by
  subst e
  obtain ⟨a, xs, e, f, ra⟩ := Rp.lst_inv r
  exact ⟨a, xs, ds, e, (fun z => by have := w'.sF a z; rw [f] at this; cases this), .inl (w'.sub _ _ f), p, ra⟩
theorem EvR.tp {P : List PyData → Prop} (h : EvR C te Γ (fun d => ∃ ds, P ds ∧ d = .tuple ds)) : RsR C te Γ P := EvQ.imp h fun _ _ _ _ _ w gr w' ⟨d, ⟨ds, p, e⟩, r⟩ => by
  subst e
  obtain ⟨a, xs, e, f, ra⟩ := Rp.tup_inv r
  exact ⟨a, xs, ds, e, (fun z => by have := w'.sF a z; rw [f] at this; cases this), .inr (w'.sub _ _ f), p, ra⟩
theorem EvD.rsl (h : EvD te Γ (.list ds)) : RsR C te Γ (fun x => x = ds) := (h.r.imp fun d e => ⟨ds, rfl, e⟩ : EvR C te Γ (fun d => ∃ es, es = ds ∧ d = .list es)).ls
theorem EvD.rst (h : EvD te Γ (.tuple ds)) : RsR C te Γ (fun x => x = ds) := (h.r.imp fun d e => ⟨ds, rfl, e⟩ : EvR C te Γ (fun d => ∃ es, es = ds ∧ d = .tuple es)).tp
theorem rs_own {i : Nat} (h : Γ[i]? = some (.own ds)) : RsR C (tVar i) Γ (fun x => x = ds) := fun B F H σ w g Q q => by
  obtain ⟨p, vs, e, l, f, b, n, r⟩ := g.ok i _ h
  exact ⟨_, e, q _ F H (.refl w.sub) w ⟨p, vs, ds, rfl, n, .inl l, rfl, r⟩⟩
/-- operators -/
theorem er_op {r : R2} {Pa Pb : PyData → Prop} (ha : EvR C ta Γ Pa) (hb : EvR C tb Γ Pb) (hr : ∀ x y, Pa x → Pb y → ∃ d, P d ∧ RV r x y d) : EvR C (tOp r ta tb) Γ P := fun B F H σ w g Q q =>
  ha B F H σ w g _ fun v F1 H1 g1 w1 ⟨x, px, r1⟩ => hb B F1 H1 σ w1 (g.grow g1) _ fun u F2 H2 g2 w2 ⟨y, py, r2⟩ => by
    obtain ⟨d, pd, rv⟩ := hr x y px py
    exact rv F2 H2 v u g2.fh (r1.mono g2.ff) r2 Q fun z F3 H3 g3 r3 => q z F3 H3 ((g1.trans g2).trans g3.weak) (w2.grow g3) ⟨d, pd, r3⟩
theorem ei_op {r : R2} {Pa Pb P : Int → Prop} (ha : EvI C ta Γ Pa) (hb : EvI C tb Γ Pb) (hr : ∀ i j, Pa i → Pb j → ∃ k, P k ∧ RV r (.int i) (.int j) (.int k)) : EvI C (tOp r ta tb) Γ P :=
  EvR.int (er_op ha.r hb.r fun x y ⟨i, pi, ei⟩ ⟨j, pj, ej⟩ => by
    subst ei ej
    obtain ⟨k, pk, rv⟩ := hr i j pi pj
    exact ⟨.int k, ⟨k, pk, rfl⟩, rv⟩)
theorem rv_add {i j : Int} : RV (rAddA K) (.int i) (.int j) (.int (i + j)) := fun F H v u s r1 r2 Q q => .inl (rv_I0 (g := fun i j => .int (i + j)) (fun F => .int _) F H v u s r1 r2 Q q)
theorem rv_mul {i j : Int} (hc : CMul i j) : RV (rMulA K) (.int i) (.int j) (.int (i * j)) := fun F H v u s r1 r2 Q q => .inl (rv_I (g := fun i j => .int (i * j)) hc (fun F => .int _) F H v u s r1 r2 Q q)
theorem rv_sub {i j : Int} : RV rSubI (.int i) (.int j) (.int (i - j)) := rv_I0 fun F => .int _
theorem rv_mod {i j : Int} (hc : 0 < j) : RV rModI (.int i) (.int j) (.int (i % j)) := rv_I hc fun F => .int _
theorem rv_div {i j : Int} (hc : CDiv i j) : RV rDivI (.int i) (.int j) (.int (i / j)) := rv_I hc fun F => .int _
theorem rv_eqI {i j : Int} : RV (rEqA K) (.int i) (.int j) (.bool (decide (i = j))) := fun F H v u s r1 r2 Q q => by
  rw [r1.int_inv, r2.int_inv]
  refine .inl ⟨rfl, ?_⟩
  rw [show decide (V.int i = V.int j) = decide (i = j) by rw [dec_int, Bool.beq_eq_decide_eq]]
  exact q _ F H (.refl s) (.bl _)
theorem ei_add {Pa Pb P : Int → Prop} (ha : EvI C ta Γ Pa) (hb : EvI C tb Γ Pb) (h : ∀ i j, Pa i → Pb j → P (i + j)) : EvI C (tOp (rAddA K) ta tb) Γ P := ei_op ha hb fun i j a b => ⟨_, h i j a b, rv_add⟩
theorem ei_sub {Pa Pb P : Int → Prop} (ha : EvI C ta Γ Pa) (hb : EvI C tb Γ Pb) (h : ∀ i j, Pa i → Pb j → P (i - j)) : EvI C (tOp rSubI ta tb) Γ P := ei_op ha hb fun i j a b => ⟨_, h i j a b, rv_sub⟩
theorem ei_mul {Pa Pb P : Int → Prop} (ha : EvI C ta Γ Pa) (hb : EvI C tb Γ Pb) (h : ∀ i j, Pa i → Pb j → CMul i j ∧ P (i * j)) : EvI C (tOp (rMulA K) ta tb) Γ P := ei_op ha hb fun i j a b => ⟨_, (h i j a b).2, rv_mul (h i j a b).1⟩
theorem ei_mod {Pa Pb P : Int → Prop} (ha : EvI C ta Γ Pa) (hb : EvI C tb Γ Pb) (h : ∀ i j, Pa i → Pb j → 0 < j ∧ P (i % j)) : EvI C (tOp rModI ta tb) Γ P := ei_op ha hb fun i j a b => ⟨_, (h i j a b).2, rv_mod (h i j a b).1⟩
theorem ei_div {Pa Pb P : Int → Prop} (ha : EvI C ta Γ Pa) (hb : EvI C tb Γ Pb) (h : ∀ i j, Pa i → Pb j → CDiv i j ∧ P (i / j)) : EvI C (tOp rDivI ta tb) Γ P := ei_op ha hb fun i j a b => ⟨_, (h i j a b).2, rv_div (h i j a b).1⟩
theorem ei_int {P : Int → Prop} (h : EvI C ta Γ P) : EvI C (tCB rIntA (tCons ta tNil)) Γ P := fun B F H σ w g Q q =>
  h B F H σ w g _ fun v F1 H1 g1 w1 ⟨i, p, e⟩ => by
    subst e
    exact .inl ⟨i, rfl, q _ F1 H1 g1 w1 ⟨i, p, rfl⟩⟩
/-- subscripts -/
theorem er_ix {Ps : List PyData → Prop} {Pi : Int → Prop} (ha : RsR C ta Γ Ps) (hb : EvI C tb Γ Pi) (h : ∀ ds i, Ps ds → Pi i → ∃ d, atI ds i = some d ∧ P d) : EvR C (tOp (rIx K) ta tb) Γ P := fun B F H σ w g Q q =>
  ha B F H σ w g _ fun v F1 H1 g1 w1 ⟨p, vs, ds, e1, hs, h1, p1, r1⟩ => hb B F1 H1 σ w1 (g.grow g1) _ fun u F2 H2 g2 w2 ⟨i, pi, e2⟩ => by
    subst e1 e2
    obtain ⟨d, hd, pd⟩ := h ds i p1 pi
    obtain ⟨j, e1, e2⟩ : ∃ j, ixN ds.length i = some j ∧ ds[j]? = some d := by
      unfold atI at hd
      cases e : ixN ds.length i with
      | none => rw [e] at hd; cases hd
      | some j => rw [e] at hd; exact ⟨j, rfl, hd⟩
    have r2 := r1.mono g2.ff
    obtain ⟨v, k1, k2⟩ := r2.get e2
    have a : atI vs i = some v := by unfold atI; rw [r2.length, e1]; exact k1
    rcases h1 with h1 | h1
    · exact .inl ⟨p, vs, i, v, rfl, rfl, SqL.of (g2.hh _ _ hs h1), a, q v F2 H2 (g1.trans g2) w2 ⟨d, pd, k2⟩⟩
    · exact .inr (.inl ⟨p, vs, i, v, rfl, rfl, SqT.of (g2.hh _ _ hs h1), a, q v F2 H2 (g1.trans g2) w2 ⟨d, pd, k2⟩⟩)
/-- tests -/
theorem etr_d {b : Bool} (h : EvT tt Γ b) : EvTR C tt Γ (fun x => x = b) := fun B F H σ w g Q q => h C B F H σ w g Q fun F' H' gr => q b F' H' gr.weak (w.grow gr) rfl
theorem etr_val {P : Bool → Prop} (h : EvR C te Γ (fun d => ∃ b, P b ∧ d = .bool b)) : EvTR C (tB te) Γ P := fun B F H σ w g Q q => h B F H σ w g _ fun v F1 H1 g1 w1 ⟨d, ⟨b, p, e⟩, r⟩ => by
  subst e
  exact ⟨b, r.bl_inv, q b F1 H1 g1 w1 p⟩
theorem etr_test {P : Bool → Prop} (h : EvR C te Γ (fun d => ∃ b, P b ∧ d = .bool b)) : EvTR C (tTest te) Γ P := fun B F H σ w g Q q => h B F H σ w g _ fun v F1 H1 g1 w1 ⟨d, ⟨b, p, e⟩, r⟩ => by
  subst e
  exact ⟨b, r.bl_inv, q b F1 H1 g1 w1 p⟩
theorem etr_eq {Pa Pb : Int → Prop} {P : Bool → Prop} (ha : EvI C ta Γ Pa) (hb : EvI C tb Γ Pb) (h : ∀ i j, Pa i → Pb j → P (decide (i = j))) : EvTR C (tTest (tOp (rEqA K) ta tb)) Γ P :=
  etr_test (er_op ha.r hb.r fun x y ⟨i, pi, ei⟩ ⟨j, pj, ej⟩ => by
    subst ei ej
    exact ⟨.bool (decide (i = j)), ⟨_, h i j pi pj, rfl⟩, rv_eqI⟩)
theorem etr_gt {Pa Pb : Int → Prop} {P : Bool → Prop} (ha : EvI C ta Γ Pa) (hb : EvI C tb Γ Pb) (h : ∀ i j, Pa i → Pb j → P (decide (j < i))) : EvTR C (tTest (tOp rGtI ta tb)) Γ P :=
  etr_test (er_op ha.r hb.r fun x y ⟨i, pi, ei⟩ ⟨j, pj, ej⟩ => by
    subst ei ej
    exact ⟨.bool (decide (j < i)), ⟨_, h i j pi pj, rfl⟩, rv_I0 fun F => .bl _⟩)
theorem etr_lt {Pa Pb : Int → Prop} {P : Bool → Prop} (ha : EvI C ta Γ Pa) (hb : EvI C tb Γ Pb) (h : ∀ i j, Pa i → Pb j → P (decide (i < j))) : EvTR C (tTest (tOp rLtI ta tb)) Γ P :=
  etr_test (er_op ha.r hb.r fun x y ⟨i, pi, ei⟩ ⟨j, pj, ej⟩ => by
    subst ei ej
    exact ⟨.bool (decide (i < j)), ⟨_, h i j pi pj, rfl⟩, rv_I0 fun F => .bl _⟩)
/-- any outcome -/
theorem etr_any (h : EvTR C tt Γ fun _ => True) {P : Bool → Prop} (p : ∀ b, P b) : EvTR C tt Γ P := h.imp fun b _ => p b
theorem etr_and {P1 P2 P : Bool → Prop} (h1 : EvTR C tt Γ P1) (h2 : P1 true → EvTR C tu Γ P2) (hf : P1 false → P false) (ht : ∀ b, P1 true → P2 b → P b) : EvTR C (tAnd tt tu) Γ P := fun B F H σ w g Q q => h1 B F H σ w g _ fun b F1 H1 g1 w1 p => by
  cases b with
  | true =>
    show tu σ H1 Q
    exact h2 p B F1 H1 σ w1 (g.grow g1) Q fun b F2 H2 g2 w2 p2 => q b F2 H2 (g1.trans g2) w2 (ht b p p2)
  | false =>
    show Q false H1
    exact q _ F1 H1 g1 w1 (hf p)
theorem etr_or {P1 P2 P : Bool → Prop} (h1 : EvTR C tt Γ P1) (h2 : P1 false → EvTR C tu Γ P2) (hf : P1 true → P true) (ht : ∀ b, P1 false → P2 b → P b) : EvTR C (tOr tt tu) Γ P := fun B F H σ w g Q q => h1 B F H σ w g _ fun b F1 H1 g1 w1 p => by
  cases b with
  | false =>
    show tu σ H1 Q
    exact h2 p B F1 H1 σ w1 (g.grow g1) Q fun b F2 H2 g2 w2 p2 => q b F2 H2 (g1.trans g2) w2 (ht b p p2)
  | true =>
    show Q true H1
    exact q _ F1 H1 g1 w1 (hf p)
theorem etr_not {P P1 : Bool → Prop} (h : EvTR C tt Γ P1) (p : ∀ b, P1 b → P (!b)) : EvTR C (tNot tt) Γ P := fun B F H σ w g Q q => h B F H σ w g _ fun b F1 H1 g1 w1 pb => q (!b) F1 H1 g1 w1 (p b pb)
/-- arguments -/
theorem ear_d (h : EvA ts Γ ds) : EvAR C ts Γ (fun x => x = ds) := fun B F H σ w g Q q => h C B F H σ w g Q fun vs F1 H1 g1 r => q vs F1 H1 ds g1.weak (w.grow g1) rfl r
theorem ear_nil : EvAR C tNil Γ (fun x => x = []) := fun B F H σ w g Q q => q [] F H [] (.refl w.sub) w rfl .nil
theorem ear_cons {Ps Pr : List PyData → Prop} (ha : EvR C ta Γ P) (hb : EvAR C ts Γ Ps) (h : ∀ d ds, P d → Ps ds → Pr (d :: ds)) : EvAR C (tCons ta ts) Γ Pr := fun B F H σ w g Q q =>
  ha B F H σ w g _ fun v F1 H1 g1 w1 ⟨d, pd, r⟩ => hb B F1 H1 σ w1 (g.grow g1) _ fun vs F2 H2 ds g2 w2 ps rs => q (v :: vs) F2 H2 (d :: ds) (g1.trans g2) w2 (h d ds pd ps) (.cons (r.mono g2.ff) rs)
/-- tuples and lists laid -/
theorem er_tup {Ps : List PyData → Prop} (h : EvAR C ts Γ Ps) (hp : ∀ ds, Ps ds → ds.length ≤ 100000 ∧ P (.tuple ds)) : EvR C (tTup ts) Γ P := fun B F H σ w g Q q =>
  h B F H σ w g _ fun vs F1 H1 ds g1 w1 ps r => by
    obtain ⟨hz, pp⟩ := hp ds ps
    exact ⟨by rw [r.length]; exact size_ok hz, fun p hp' => q _ _ _ (g1.trans (.new g1.fh hp')) (w1.grow (.new g1.fh hp')) ⟨.tuple ds, pp, .tup upd_same (r.mono (Sub.new (g1.fh.none hp')))⟩⟩
theorem ern_lst {Ps Pr : List PyData → Prop} (h : EvAR C ts Γ Ps) (hp : ∀ ds, Ps ds → ds.length ≤ 100000 ∧ Pr ds) : EnR C (tLst ts) Γ Pr := fun B F H σ w g Q q =>
  h B F H σ w g _ fun vs F1 H1 ds g1 w1 ps r => by
    obtain ⟨hz, pp⟩ := hp ds ps
    exact ⟨by rw [r.length]; exact size_ok hz, fun p hp' => q _ F1 _ (g1.trans (.newM g1.fh hp')) (w1.grow (.newM g1.fh hp')) ⟨p, vs, ds, rfl, g1.fresh' hp', g1.fh.none hp', fun z => w1.sH p z hp', upd_same, pp, r⟩⟩
/-- tuple(..), list(..) -/
theorem er_tuple {Ps : List PyData → Prop} (h : RsR C ta Γ Ps) (hp : ∀ ds, Ps ds → P (.tuple ds)) (hl : EnR C ta Γ Ps) : EvR C (tThen ta (kTup K)) Γ P := fun B F H σ w g Q q =>
  hl B F H σ w g _ fun v F1 H1 g1 w1 ⟨p, vs, ds, e, n, f, s, l, pp, r⟩ => by
    subst e
    exact .inl ⟨p, vs, rfl, SqL.of l, fun t ht => q _ _ _ (g1.trans (.new g1.fh ht)) (w1.grow (.new g1.fh ht)) ⟨.tuple ds, hp ds pp, .tup upd_same (r.mono (Sub.new (g1.fh.none ht)))⟩⟩
end

/-! ### comprehensions whose items are drawn -/
def WkS (S : List Addr) (J : It) (F1 H1 : Hp) (ds : List PyData) : Prop := ∀ F2 H2, Grow S F1 H1 F2 H2 →
  (∀ i d, ds[i]? = some d → J.go i H2 ∧ ∀ x H', J.yld i H2 x H' → ∃ F', Grow [] F2 H2 F' H' ∧ Rp F' x d) ∧ J.stop ds.length H2
def IterS (C : Pc) (wi : TI) (Γ : List Sl) (ds : List PyData) : Prop :=
  ∀ (B F H : Hp) (σ : L2.St), Wd C F H → Gm C B F H σ Γ → ∀ R : It → Hp → Prop, (∀ J F' H', Grow C.S F H F' H' → Wd C F' H' → WkS C.S J F' H' ds → R J H') → wi σ H R
theorem IterF.s {C : Pc} {wi : TI} {Γ : List Sl} {ds : List PyData} (h : IterF wi Γ ds) : IterS C wi Γ ds := fun B F H σ w g R r => h C B F H σ w g R fun J F1 H1 g1 k => r J F1 H1 g1.weak (w.grow g1) fun F2 H2 g2 => k F2 H2 g2.ff g2.fh
theorem is_own {C : Pc} {Γ : List Sl} {ds : List PyData} {K : PySem.W.Frag} {i : Nat} (h : Γ[i]? = some (.own ds)) : IterS C (iSeq K (tVar i)) Γ ds := fun B F H σ w g R r => by
  obtain ⟨p, vs, e, l, f, b, n, ra⟩ := g.ok i _ h
  exact ⟨_, e, p, rfl, .inl ⟨⟨vs, SqL.of l⟩, r _ F H (.refl w.sub) w fun F2 H2 g2 => wk_list g2.fh (g2.hh _ _ n l) (ra.mono g2.ff)⟩⟩
inductive Gen {α : Type} (Pt : α → Bool → Prop) (Pf : α → PyData → Prop) : List α → List PyData → Prop
  | nil : Gen Pt Pf [] []
  | skip {x : α} {xs : List α} {ds : List PyData} : Gen Pt Pf xs ds → Pt x false → Gen Pt Pf (xs ++ [x]) ds
  | take {x : α} {xs : List α} {d : PyData} {ds : List PyData} : Gen Pt Pf xs ds → Pt x true → Pf x d → Gen Pt Pf (xs ++ [x]) (ds ++ [d])
theorem Gen.le {α : Type} {Pt : α → Bool → Prop} {Pf : α → PyData → Prop} {xs : List α} {ds : List PyData} (h : Gen Pt Pf xs ds) : ds.length ≤ xs.length := by
  induction h with
  | nil => exact Nat.le_refl _
  | skip _ _ ih => rw [List.length_append]; exact Nat.le_trans ih (Nat.le_add_right _ _)
  | take _ _ _ ih => rw [List.length_append, List.length_append]; exact Nat.add_le_add_right ih _
section
variable {C : Pc} {te ta tb : TE} {tt tu : TT} {ts : TA} {Γ : List Sl} {d x y : PyData} {ds es : List PyData} {P P' : PyData → Prop} {K : PySem.W.Frag} {E : XK}
theorem en_lcR {α : Type} {xs : List α} {enc : α → PyData} {Pt : α → Bool → Prop} {Pf : α → PyData → Prop} {Pr : List PyData → Prop} {wi : TI} {g : TG} {vs : List Nat} {Γx : α → List Sl}
    (hi : IterS C wi Γ (xs.map enc)) (hz : xs.length ≤ 100000) (hg : ∀ x ∈ xs, TgD g vs (wipeG Γ vs) (enc x) (Γx x))
    (ht : ∀ x ∈ xs, EvTR C tt (Γx x) (Pt x)) (he : ∀ x ∈ xs, Pt x true → EvR C te (Γx x) (Pf x)) (hp : ∀ ds, Gen Pt Pf xs ds → Pr ds) : EnR C (tLc wi g tt te vs) Γ Pr := fun B F H σ w gm Q q =>
  hi B F H σ w gm _ fun J F1 H1 g1 w1 wk D hD => by
    have e1 := gm.grow g1
    have nS : D ∉ C.S := fun z => w1.sH D z hD
    have mv : ∀ {F' H' : Hp} {acc : List V}, Grow C.S F1 H1 F' H' → F' D = none → H1 D = none → Grow C.S F1 H1 F' (upd H' D (.lst acc)) := fun {F' H' acc} gg f3 hD =>
      ⟨gg.ff, fun a o e => by
        have z : a ≠ D := fun z => by subst z; rw [f3] at e; cases e
        rw [upd_ne z]; exact gg.fh a o e, fun a o n e => by
        have z : a ≠ D := fun z => by subst z; rw [hD] at e; cases e
        rw [upd_ne z]; exact gg.hh a o n e, fun a e => upd_th (gg.th a e), gg.nw⟩
    refine ⟨fun i m H' => i + m = xs.length ∧ ∃ F' acc ds, Grow C.S F1 H1 F' H' ∧ Wd C F' H' ∧ F' D = none ∧ H' D = some (.lst acc) ∧ RpAll F' acc ds ∧ Gen Pt Pf (xs.take i) ds,
      ⟨xs.length, by omega, F1, [], [], .newM g1.fh hD, w1.grow (.newM g1.fh hD), g1.fh.none hD, upd_same, .nil, .nil⟩, fun i m H' ⟨hm, F', acc, ds, g2, w2, hF, hH, ra, gen⟩ => ?_⟩
    by_cases hlt : i < xs.length
    · refine .inr ?_
      obtain ⟨x, hx⟩ : ∃ x, xs[i]? = some x := ⟨_, List.getElem?_eq_getElem hlt⟩
      have hmem : x ∈ xs := List.mem_of_getElem? hx
      have htk : xs.take (i + 1) = xs.take i ++ [x] := by rw [List.take_add_one, hx]; rfl
      obtain ⟨go, yl⟩ := (wk F' H' g2).1 i (enc x) (by rw [List.getElem?_map, hx]; rfl)
      refine ⟨go, fun H'' => ∃ F'' acc ds, Grow C.S F1 H1 F'' H'' ∧ Wd C F'' H'' ∧ F'' D = none ∧ H'' D = some (.lst acc) ∧ RpAll F'' acc ds ∧ Gen Pt Pf (xs.take (i + 1)) ds, fun H'' h'' => ⟨m - 1, by omega, by omega, h''⟩, fun v H'' y => ?_⟩
      obtain ⟨F'', g3, rv⟩ := yl v H'' y
      have g23 := g2.trans g3.weak
      have dF : F'' D = none := g3.nw D (by rw [hH]; exact fun z => nomatch z) hF
      refine hg x hmem C B F'' H'' (L2.wipe σ vs) v g3.fh ((e1.grow g23).wipe vs) rv _ fun σ' e2 hw => ⟨hw.trans (wipe_wipe σ vs), ?_⟩
      refine ht x hmem B F'' H'' σ' (w2.grow g3) e2 _ fun b F3 H3 g4 w4 pb => ?_
      have d3 : H3 D = some (.lst acc) := g4.hh _ _ nS (g3.sub _ _ hH)
      have f3 : F3 D = none := g4.nw D (by rw [g3.sub _ _ hH]; exact fun z => nomatch z) dF
      cases b with
      | true =>
        rw [if_pos rfl]
        refine he x hmem pb B F3 H3 σ' w4 (e2.grow g4) _ fun u F4 H4 g5 w5 ⟨d, pd, ru⟩ => ?_
        have gg := (g23.trans g4).trans g5
        have f4 : F4 D = none := g5.nw D (by rw [d3]; exact fun z => nomatch z) f3
        refine ⟨acc, g5.hh _ _ nS d3, ?_, F4, acc ++ [u], ds ++ [d], mv gg f4 hD, w5.mut nS f4, f4, upd_same, ?_, ?_⟩
        · rw [ra.length]
          exact Nat.lt_of_le_of_lt (Nat.le_trans gen.le (by rw [List.length_take]; exact Nat.le_trans (Nat.min_le_right _ _) hz)) (by decide)
        · exact (((ra.mono g3.ff).mono g4.ff).mono g5.ff).append (.one ru)
        · rw [htk]; exact .take gen pb pd
      | false =>
        rw [if_neg Bool.false_ne_true]
        refine ⟨F3, acc, ds, g23.trans g4, w4, f3, d3, (ra.mono g3.ff).mono g4.ff, ?_⟩
        rw [htk]; exact .skip gen pb
    · refine .inl ?_
      have ei : i = xs.length := by omega
      subst ei
      refine ⟨by have z := (wk F' H' g2).2; rw [List.length_map] at z; exact z, ?_⟩
      rw [List.take_length] at gen
      exact q _ F' H' (g1.trans g2) w2 ⟨D, acc, ds, rfl, g1.fresh' hD, hF, nS, hH, hp ds gen, ra⟩
theorem etr_yes : EvTR C tYes Γ (fun b => b = true) := fun B F H σ w g Q q => q true F H (.refl w.sub) w rfl
/-- item by item -/
def All2 {α : Type} (Pf : α → PyData → Prop) (xs : List α) (ds : List PyData) : Prop := ds.length = xs.length ∧ ∀ (i : Nat) (x : α) (d : PyData), xs[i]? = some x → ds[i]? = some d → Pf x d
theorem Gen.all {α : Type} {Pf : α → PyData → Prop} {xs : List α} {ds : List PyData} (h : Gen (fun _ b => b = true) Pf xs ds) : All2 Pf xs ds := by
  induction h with
  | nil => exact ⟨rfl, fun i x d e => by simp at e⟩
  | skip _ z _ => cases z
  | @take x xs d ds _ _ p ih =>
    refine ⟨by rw [List.length_append, List.length_append, ih.1]; rfl, fun i y e h1 h2 => ?_⟩
    by_cases hi : i < xs.length
    · rw [List.getElem?_append_left hi] at h1
      rw [List.getElem?_append_left (by rw [ih.1]; exact hi)] at h2
      exact ih.2 i y e h1 h2
    · rw [List.getElem?_append_right (by omega)] at h1
      rw [List.getElem?_append_right (by rw [ih.1]; omega), ih.1] at h2
      cases q : i - xs.length with
      | zero => rw [q] at h1 h2; cases h1; cases h2; exact p
      | succ n => rw [q] at h1; simp at h1
/-- without a test -/
theorem en_lcMR {α : Type} {xs : List α} {enc : α → PyData} {Pf : α → PyData → Prop} {Pr : List PyData → Prop} {wi : TI} {g : TG} {vs : List Nat} {Γx : α → List Sl}
    (hi : IterS C wi Γ (xs.map enc)) (hz : xs.length ≤ 100000) (hg : ∀ x ∈ xs, TgD g vs (wipeG Γ vs) (enc x) (Γx x))
    (he : ∀ x ∈ xs, EvR C te (Γx x) (Pf x)) (hp : ∀ ds, All2 Pf xs ds → Pr ds) : EnR C (tLc wi g tYes te vs) Γ Pr :=
  en_lcR (Pt := fun _ b => b = true) hi hz hg (fun _ _ => etr_yes) (fun x hx _ => he x hx) fun ds h => hp ds h.all
end

/-! ### draws -/
/-- a def that is handed a pool of the family Fm, and what it may hand back -/
def spD (Fm : Pc → Prop) (Pre : List PyData → Prop) (Post : List PyData → PyData → Prop) : Sp := fun vs H Q _ => ∃ C F ws ds, Fm C ∧ vs = .ref C.p :: ws ∧ Wd C F H ∧ RpAll F ws ds ∧ Pre ds ∧
  ∀ v F' H' d, Grow C.S F H F' H' → Wd C F' H' → Post ds d → Rp F' v d → Q v H'
/-- .. a new list -/
def spDN (Fm : Pc → Prop) (Pre : List PyData → Prop) (Post : List PyData → List PyData → Prop) : Sp := fun vs H Q _ => ∃ C F ws ds, Fm C ∧ vs = .ref C.p :: ws ∧ Wd C F H ∧ RpAll F ws ds ∧ Pre ds ∧
  ∀ p us F' H' es, Grow C.S F H F' H' → Wd C F' H' → Post ds es → H p = none → F' p = none → p ∉ C.S → H' p = some (.lst us) → RpAll F' us es → Q (.ref p) H'
section
variable {C : Pc} {te ta tb : TE} {tt tu : TT} {ts : TA} {Γ : List Sl} {d x y : PyData} {ds es : List PyData} {P P' : PyData → Prop} {K : PySem.W.Frag} {E : XK} {Fm : Pc → Prop} {i : Nat}
theorem er_call {Pre : List PyData → Prop} {Post : List PyData → PyData → Prop} {Pa : List PyData → Prop} (hf : Fm C) (hp : Γ[i]? = some .pool) (ha : EvAR C ts Γ Pa) (h : ∀ ds, Pa ds → Pre ds ∧ ∀ d, Post ds d → P d) :
    EvR C (tCall (spD Fm Pre Post) [] E (tCons (tVar i) ts)) Γ P := fun B F H σ w g Q q =>
  ⟨_, g.ok i _ hp, ha B F H σ w g _ fun vs F1 H1 ds g1 w1 pa r => ⟨C, F1, vs, ds, hf, by rw [List.append_nil], w1, r, (h ds pa).1, fun v F2 H2 d g2 w2 pd rv => q v F2 H2 (g1.trans g2) w2 ⟨d, (h ds pa).2 d pd, rv⟩⟩⟩
theorem ern_call {Pre : List PyData → Prop} {Post : List PyData → List PyData → Prop} {Pa Pr : List PyData → Prop} (hf : Fm C) (hp : Γ[i]? = some .pool) (ha : EvAR C ts Γ Pa) (h : ∀ ds, Pa ds → Pre ds ∧ ∀ d, Post ds d → Pr d) :
    EnR C (tCall (spDN Fm Pre Post) [] E (tCons (tVar i) ts)) Γ Pr := fun B F H σ w g Q q =>
  ⟨_, g.ok i _ hp, ha B F H σ w g _ fun vs F1 H1 ds g1 w1 pa r => ⟨C, F1, vs, ds, hf, by rw [List.append_nil], w1, r, (h ds pa).1, fun p us F2 H2 es g2 w2 pd hn hF hs hl rv => q _ F2 H2 (g1.trans g2) w2 ⟨p, us, es, rfl, g1.fresh' hn, hF, hs, hl, (h ds pa).2 es pd, rv⟩⟩⟩
/-- a def without draws, its arguments drawn -/
theorem er_callA {R : List PyData → Out → Prop} {Pa : List PyData → Prop} (ha : EvAR C ts Γ Pa) (h : ∀ ds, Pa ds → ∃ d, R ds (.ok d) ∧ P d) : EvR C (tCall (spR R) [] E ts) Γ P := fun B F H σ w g Q q =>
  ha B F H σ w g _ fun vs F1 H1 ds g1 w1 pa r => by
    obtain ⟨d, hR, pd⟩ := h ds pa
    exact ⟨F1, ds, .ok d, w1.sub, by rw [List.append_nil]; exact r, hR, fun d' e v F2 H2 g2 r2 => by cases e; exact q v F2 H2 (g1.trans g2.weak) (w1.grow g2) ⟨d, pd, r2⟩, fun c f e => nomatch e⟩
end

theorem spD_len {Fm : Pc → Prop} {Pre : List PyData → Prop} {Post : List PyData → PyData → Prop} {n : Nat} (h : ∀ ds, Pre ds → ds.length + 1 = n) : ∀ vs H Q E, spD Fm Pre Post vs H Q E → vs.length = n := fun vs H Q E ⟨C, F, ws, ds, _, e, _, r, p, _⟩ => by
  rw [e, List.length_cons, r.length]; exact h ds p
theorem spDN_len {Fm : Pc → Prop} {Pre : List PyData → Prop} {Post : List PyData → List PyData → Prop} {n : Nat} (h : ∀ ds, Pre ds → ds.length + 1 = n) : ∀ vs H Q E, spDN Fm Pre Post vs H Q E → vs.length = n := fun vs H Q E ⟨C, F, ws, ds, _, e, _, r, p, _⟩ => by
  rw [e, List.length_cons, r.length]; exact h ds p
/-! ### a def that draws, from its promise -/
def startP (n : Nat) (ds : List PyData) : List Sl := .pool :: (ds.map .dat ++ List.replicate (n - 1 - ds.length) .no)
theorem startP_gm {C : Pc} {F H : Hp} {ws : List V} {ds : List PyData} {N : List Str} (r : RpAll F ws ds) : Gm C H F H (L2.start N (.ref C.p :: ws)) (startP N.length ds) := by
  have hl := r.length
  have e : N.length - (1 + ws.length) = N.length - 1 - ds.length := by rw [hl]; omega
  refine ⟨by unfold L2.start startP; simp [hl]; omega, fun i s es => ?_, fun i j ds' es p e1 _ _ _ => ?_⟩
  · unfold startP at es
    cases i with
    | zero => cases es; rfl
    | succ i =>
      rw [List.getElem?_cons_succ] at es
      by_cases hi : i < ds.length
      · rw [List.getElem?_append_left (by simpa using hi), List.getElem?_map, List.getElem?_eq_getElem hi] at es
        cases es
        obtain ⟨v, h1, h2⟩ := r.get (List.getElem?_eq_getElem hi)
        refine ⟨v, ?_, h2⟩
        unfold L2.start
        rw [List.map_cons, List.cons_append, List.getElem?_cons_succ, List.getElem?_append_left (by simpa [hl] using hi), List.getElem?_map, h1]
        rfl
      · rw [List.getElem?_append_right (by simpa using hi), List.getElem?_replicate] at es
        split at es
        · cases es; trivial
        · cases es
  · exfalso
    unfold startP at e1
    cases i with
    | zero => cases e1
    | succ i =>
      rw [List.getElem?_cons_succ] at e1
      by_cases hi : i < ds.length
      · rw [List.getElem?_append_left (by simpa using hi), List.getElem?_map, List.getElem?_eq_getElem hi] at e1
        cases e1
      · rw [List.getElem?_append_right (by simpa using hi), List.getElem?_replicate] at e1
        split at e1 <;> cases e1
theorem spD_body {Fm : Pc → Prop} {Pre : List PyData → Prop} {Post : List PyData → PyData → Prop} {N : List Str} {t : XK → TS} {vs : List V} {H : Hp} {Q : VK} {E : XK} (h : spD Fm Pre Post vs H Q E)
    (hb : ∀ C ds, Fm C → Pre ds → ∀ (B F0 : Hp) (D : Ends), RetOk C B F0 D (Post ds) → At C B F0 (startP N.length ds) (t E D)) : t E { nx := fun _ H' => Q .non H', rt := Q } (L2.start N vs) H := by
  obtain ⟨C, F, ws, ds, hf, rfl, w, r, hp, hq⟩ := h
  exact hb C ds hf hp H F { nx := fun _ H' => Q .non H', rt := Q } (fun F1 H1 v d w1 g pd rv => hq v F1 H1 d g w1 pd rv) F H _ w (.refl w.sub) (startP_gm r)
theorem spDN_body {Fm : Pc → Prop} {Pre : List PyData → Prop} {Post : List PyData → List PyData → Prop} {N : List Str} {t : XK → TS} {vs : List V} {H : Hp} {Q : VK} {E : XK} (h : spDN Fm Pre Post vs H Q E)
    (hb : ∀ C ds, Fm C → Pre ds → ∀ (B F0 : Hp) (D : Ends), RetN C B F0 D (Post ds) → At C B F0 (startP N.length ds) (t E D)) : t E { nx := fun _ H' => Q .non H', rt := Q } (L2.start N vs) H := by
  obtain ⟨C, F, ws, ds, hf, rfl, w, r, hp, hq⟩ := h
  exact hb C ds hf hp H F { nx := fun _ H' => Q .non H', rt := Q } (fun F1 H1 p us es w1 g hb hF hs hl ra pd => hq p us F1 H1 es g w1 pd hb hF hs hl ra) F H _ w (.refl w.sub) (startP_gm r)

/-! ### statements -/
section
variable {C : Pc} {B F0 : Hp} {Γ : List Sl} {te ta tb : TE} {tt : TT} {t u : TS} {D : Ends} {i : Nat} {d : PyData} {ds es : List PyData} {P : PyData → Prop} {R : PyData → Prop} {RN : List PyData → Prop} {K : PySem.W.Frag}
theorem at_asgR (h : EvR C te Γ P) (k : ∀ d, P d → At C B F0 (Γ.set i (.dat d)) D.nx) : At C B F0 Γ (tAsg te (gName i) D) := fun F H σ w g e =>
  h B F H σ w e _ fun v F1 H1 g1 w1 ⟨d, pd, r⟩ => k d pd F1 H1 _ w1 (g.trans g1) ((e.grow g1).dat r)
theorem at_asgI {P : Int → Prop} (h : EvI C te Γ P) (k : ∀ j, P j → At C B F0 (Γ.set i (.dat (.int j))) D.nx) : At C B F0 Γ (tAsg te (gName i) D) := at_asgR h.r fun d ⟨j, pj, e⟩ => e ▸ k j pj
theorem at_asgNR {Pr : List PyData → Prop} (h : EnR C te Γ Pr) (k : ∀ ds, Pr ds → At C B F0 (Γ.set i (.own ds)) D.nx) : At C B F0 Γ (tAsg te (gName i) D) := fun F H σ w g e =>
  h B F H σ w e _ fun v F1 H1 g1 w1 ⟨p, vs, ds, ev, hn, hf, hs, hl, pp, r⟩ => by
    subst ev
    refine k ds pp F1 H1 _ w1 (g.trans g1) ((e.grow g1).set ⟨p, vs, rfl, hl, hf, g.fresh' hn, hs, r⟩ fun ds' _ j es q eq h1 h2 => ?_)
    cases eq
    obtain ⟨q, us, e1, h3, _⟩ := e.ok j _ h1
    rw [h2] at e1; cases e1
    rw [hn] at h3; cases h3
theorem at_ifR {Pb : Bool → Prop} (h : EvTR C tt Γ Pb) (h1 : Pb true → At C B F0 Γ (t D)) (h2 : Pb false → At C B F0 Γ (u D)) : At C B F0 Γ (tIfS tt t u D) := fun F H σ w g e =>
  h B F H σ w e _ fun b F1 H1 g1 w1 pb => by
    cases b with
    | true =>
      show t D σ H1
      exact h1 pb F1 H1 σ w1 (g.trans g1) (e.grow g1)
    | false =>
      show u D σ H1
      exact h2 pb F1 H1 σ w1 (g.trans g1) (e.grow g1)
theorem at_retR (hr : RetOk C B F0 D R) (h : EvR C te Γ P) (hd : ∀ d, P d → R d) : At C B F0 Γ (tRet te D) := fun F H σ w g e =>
  h B F H σ w e _ fun v F1 H1 g1 w1 ⟨d, pd, r⟩ => hr F1 H1 v d w1 (g.trans g1) (hd d pd) r
theorem at_retNR {Pr : List PyData → Prop} (hr : RetN C B F0 D RN) (h : EnR C te Γ Pr) (hd : ∀ ds, Pr ds → RN ds) : At C B F0 Γ (tRet te D) := fun F H σ w g e =>
  h B F H σ w e _ fun v F1 H1 g1 w1 ⟨p, vs, ds, ev, hn, hf, hs, hl, pp, r⟩ => by
    subst ev
    exact hr F1 H1 p vs ds w1 (g.trans g1) (g.fresh' hn) hf hs hl r (hd ds pp)
theorem at_appendR (hx : Γ[i]? = some (.own ds)) (hz : ds.length < 100000) (h : EvR C te Γ P) (k : ∀ d, P d → At C B F0 (Γ.set i (.own (ds ++ [d]))) D.nx) :
    At C B F0 Γ (tDrop (tBM K "list" rAppend (tVar i) (tCons te tNil)) D) := fun F H σ w g e => by
  obtain ⟨p, vs, e1, hl, hf, hb, hs, r⟩ := e.ok i _ hx
  refine ⟨_, e1, .inl ⟨rfl, vs, SqL.of hl⟩, h B F H σ w e _ fun v F1 H1 g1 w1 ⟨d, pd, rv⟩ => ?_⟩
  have hl1 := g1.hh _ _ hs hl
  have hf1 := g1.nw p (by rw [hl]; exact fun z => nomatch z) hf
  have g2 := g.trans g1
  have e2 : Gm C B F1 H1 σ Γ := e.grow g1
  exact ⟨p, vs, v, rfl, rfl, hl1, by rw [r.length]; exact size_lt hz, k d pd F1 _ σ (w1.mut hs hf1) (g2.mut hb hf1) (e2.mut hx e1 ((r.mono g1.ff).append (.one rv)))⟩
/-- own1.append(own2.pop(e)) -/
theorem at_popTo {j : Nat} {Pi : Int → Prop} (hx : Γ[i]? = some (.own ds)) (hy : Γ[j]? = some (.own es)) (hij : i ≠ j) (hz : ds.length < 100000) (h : EvI C te Γ Pi)
    (hk : ∀ n, Pi n → ∃ m : Nat, n = m ∧ m < es.length ∧ es.length < 100000) (k : ∀ m d, Pi (m : Nat) → es[m]? = some d → At C B F0 ((Γ.set j (.own (es.eraseIdx m))).set i (.own (ds ++ [d]))) D.nx) :
    At C B F0 Γ (tDrop (tBM K "list" rAppend (tVar i) (tCons (tBM K "list" rPopAt (tVar j) (tCons te tNil)) tNil)) D) := fun F H σ w g e => by
  obtain ⟨p, vs, e1, hl, hf, hb, hs, r⟩ := e.ok i _ hx
  obtain ⟨q, us, f1, kl, kf, kb, ks, rq⟩ := e.ok j _ hy
  refine ⟨_, e1, .inl ⟨rfl, vs, SqL.of hl⟩, _, f1, .inl ⟨rfl, us, SqL.of kl⟩, h B F H σ w e _ fun v F1 H1 g1 w1 ⟨n, pn, ev⟩ => ?_⟩
  subst ev
  obtain ⟨m, rfl, hm, hm2⟩ := hk n pn
  have npq : p ≠ q := fun z => hij (e.inj i j ds es p hx hy e1 (z ▸ f1))
  have e2 : Gm C B F1 H1 σ Γ := e.grow g1
  have kl1 := g1.hh _ _ ks kl
  have hl1 := g1.hh _ _ hs hl
  have rq1 := rq.mono g1.ff
  have hf1 := g1.nw p (by rw [hl]; exact fun z => nomatch z) hf
  have kf1 := g1.nw q (by rw [kl]; exact fun z => nomatch z) kf
  obtain ⟨d, hd⟩ : ∃ d, es[m]? = some d := ⟨_, List.getElem?_eq_getElem hm⟩
  obtain ⟨v, hv, rv⟩ := rq1.get hd
  refine ⟨q, us, (m : Nat), m, v, rfl, rfl, kl1, by omega, by omega, ?_, hv, ?_⟩
  · rw [rq.length]; exact seqIndex_of (by omega) (by omega)
  · refine ⟨p, vs, v, rfl, rfl, by rw [upd_ne npq]; exact hl1, by rw [r.length]; exact size_lt hz, ?_⟩
    have e3 := e2.mut hy f1 (rq1.eraseIdx m)
    have hx' : (Γ.set j (.own (es.eraseIdx m)))[i]? = some (.own ds) := by rw [List.getElem?_set_ne (Ne.symm hij)]; exact hx
    have g3 := (g.trans g1).mut (o := .lst (us.eraseIdx m)) kb kf1
    exact k m d pn hd F1 _ σ ((w1.mut ks kf1).mut hs hf1) (g3.mut hb hf1) (e3.mut hx' e1 ((r.mono g1.ff).append (.one rv)))
/-- own[e] = e' -/
theorem at_setR {Pi : Int → Prop} (hx : Γ[i]? = some (.own ds)) (h : EvR C te Γ P) (hi : EvI C tb Γ Pi) (hk : ∀ n, Pi n → ∃ k, ixN ds.length n = some k) (kk : ∀ d n k, P d → Pi n → ixN ds.length n = some k → At C B F0 (Γ.set i (.own (ds.set k d))) D.nx) :
    At C B F0 Γ (tAsg te (gSub (tVar i) tb rSetL) D) := fun F H σ w g e => by
  obtain ⟨p, vs, e1, hl, hf, hb, hs, r⟩ := e.ok i _ hx
  refine h B F H σ w e _ fun v F1 H1 g1 w1 ⟨d, pd, rv⟩ => ⟨_, e1, hi B F1 H1 σ w1 (e.grow g1) _ fun u F2 H2 g2 w2 ⟨n, pn, eu⟩ => ?_⟩
  subst eu
  obtain ⟨k, hk⟩ := hk n pn
  have g12 := g1.trans g2
  have hl1 := g12.hh _ _ hs hl
  have hf1 := g12.nw p (by rw [hl]; exact fun z => nomatch z) hf
  have gg := g.trans g12
  have e2 : Gm C B F2 H2 σ Γ := e.grow g12
  exact ⟨p, vs, n, k, rfl, rfl, hl1, by rw [r.length]; exact hk, kk d n k pd pn hk F2 _ σ (w2.mut hs hf1) (gg.mut hb hf1) (e2.mut hx e1 ((r.mono g12.ff).set k (rv.mono g2.ff)))⟩
/-- for, what is true at each turn -/
theorem at_forR {α : Type} {xs : List α} {enc : α → PyData} {wi : TI} {g : TG} {vs : List Nat} (Is : Nat → List Sl → Prop) (h0 : Is 0 Γ) (hi : IterF wi Γ (xs.map enc)) (Γx : α → List Sl → List Sl)
    (hg : ∀ i x Γ, xs[i]? = some x → Is i Γ → TgD g vs Γ (enc x) (Γx x Γ))
    (hb : ∀ i x Γ, xs[i]? = some x → Is i Γ → ∀ F1 H1, Grow C.S F0 B F1 H1 → ∀ D' : Ends, D'.rt = D.rt → (∀ Γ', Is (i + 1) Γ' → At C B F1 Γ' D'.nx) → (∀ Γ', Is (i + 1) Γ' → At C B F1 Γ' D'.ct) → D'.bk = D.nx → At C B F1 (Γx x Γ) (t D'))
    (hd : ∀ Γ, Is xs.length Γ → At C B F0 Γ D.nx) : At C B F0 Γ (tFor wi g t D) := fun F H σ w gr e =>
  hi C B F H σ w e _ fun J F1 H1 g1 wk => by
    have gb : Grow C.S F0 B F1 H1 := gr.trans g1.weak
    refine ⟨fun i m σ' H' => i + m = xs.length ∧ ∃ F' Γ', Is i Γ' ∧ Wd C F' H' ∧ Grow C.S F1 B F' H' ∧ Gm C B F' H' σ' Γ', ⟨xs.length, by omega, F1, Γ, h0, w.grow g1, gb.start, e.grow g1.weak⟩, fun i m σ' H' ⟨hm, F', Γ', is, w2, g2, e2⟩ => ?_⟩
    by_cases hlt : i < xs.length
    · refine .inr ?_
      obtain ⟨x, hx⟩ : ∃ x, xs[i]? = some x := ⟨_, List.getElem?_eq_getElem hlt⟩
      obtain ⟨go, yl⟩ := (wk F' H' g2.ff g2.fh).1 i (enc x) (by rw [List.getElem?_map, hx]; rfl)
      let N : L2.St → Hp → Prop := fun σ'' H'' => ∃ F'' Γ'', Is (i + 1) Γ'' ∧ Wd C F'' H'' ∧ Grow C.S F1 B F'' H'' ∧ Gm C B F'' H'' σ'' Γ''
      refine ⟨go, N, fun σ'' H'' h'' => ⟨m - 1, by omega, by omega, h''⟩, fun v H'' y => ?_⟩
      obtain ⟨F'', g3, rv⟩ := yl v H'' y
      refine hg i x Γ' hx is C B F'' H'' σ' v g3.fh (e2.grow g3.weak) rv _ fun σ3 e3 _ => ?_
      exact hb i x Γ' hx is F1 H1 gb { D with nx := N, ct := N, bk := D.nx } rfl (fun Γ2 is2 F H σ w g e => ⟨F, Γ2, is2, w, g, e⟩) (fun Γ2 is2 F H σ w g e => ⟨F, Γ2, is2, w, g, e⟩) rfl F'' H'' σ3 (w2.grow g3) (g2.trans g3.weak) e3
    · refine .inl ?_
      have ei : i = xs.length := by omega
      subst ei
      exact ⟨by have z := (wk F' H' g2.ff g2.fh).2; rw [List.length_map] at z; exact z, hd Γ' is F' H' σ' w2 (gb.chain g2) e2⟩
end
end Eh

namespace Eh
open PySem PySem.Spec PyProof.Rows L2

/-! ### isinstance -/
def tyS : PyData → String | .none => "NoneType" | .bool _ => "bool" | .int _ => "int" | .str _ => "str" | .list _ => "list" | .tuple _ => "tuple" | .dict _ => "dict"
def isIntD : PyData → Bool | .int _ => true | _ => false
def isBlD : PyData → Bool | .bool _ => true | _ => false
def isStrD : PyData → Bool | .str _ => true | _ => false
def isLstD : PyData → Bool | .list _ => true | _ => false
def isTupD : PyData → Bool | .tuple _ => true | _ => false
theorem Rp.ty {F H : Hp} {K : PySem.W.Frag} {v : V} {d : PyData} (r : Rp F v d) (s : Sub F H) : TyX K H v (.type (tyS d)) := by
  cases r with
  | non => exact .base .non
  | bl b => exact .base (.bl b)
  | int i => exact .base (.int i)
  | str x => exact .base (.str x)
  | lst h _ => exact .base (.lst (s _ _ h))
  | tup h _ => exact .base (.tup (s _ _ h))
section
variable {te ta tb : TE} {Γ : List Sl} {d x y : PyData} {ds es : List PyData} {K : PySem.W.Frag} {ts : TA}
theorem ev_isi {T : String} {b : Bool} (h : EvD ta Γ d) (hk : kitB (tyS d) T = some b) : EvD (tCB (rIsi K) (tCons ta (tCons (tC (.ty T)) tNil))) Γ (.bool b) := fun C B F H σ w g Q q =>
  h C B F H σ w g _ fun v F1 H1 g1 r1 => ⟨v, .ty T, .type (tyS d), .type T, b, rfl, .ty T, Rp.ty r1 g1.fh, kit_ty hk, q _ F1 H1 g1 (.bl _)⟩
theorem ev_isiT2 {T U : String} {b c : Bool} (h : EvD ta Γ d) (hk : kitB (tyS d) T = some b) (hl : kitB (tyS d) U = some c) :
    EvD (tCB (rIsiT K) (tCons ta (tCons (tTup (tCons (tC (.ty T)) (tCons (tC (.ty U)) tNil))) tNil))) Γ (.bool (b || c)) := fun C B F H σ w g Q q =>
  h C B F H σ w g _ fun v F1 H1 g1 r1 => ⟨by show 2 ≤ sizeLine; decide, fun p hp =>
    ⟨v, p, [.ty T, .ty U], .type (tyS d), [.type T, .type U], b || c, rfl, upd_same, .cons (.ty T) (.cons (.ty U) .nil), Rp.ty r1 (g1.fh.trans (Sub.new hp)), by
      refine kitAny_cons (kit_ty hk) (fun e => ?_) (fun e => by rw [e]; rfl)
      refine kitAny_cons (kit_ty hl) (fun e2 => ?_) (fun e2 => by rw [e2, Bool.or_true])
      rw [e, e2]; rfl, q _ F1 _ (g1.trans (.newM g1.fh hp)) (.bl _)⟩⟩
end
theorem ty_none (d : PyData) : kitB (tyS d) "int" = some (isIntD d || isBlD d) := by cases d <;> kernel_rfl
theorem ty_bool (d : PyData) : kitB (tyS d) "bool" = some (isBlD d) := by cases d <;> kernel_rfl
theorem ty_str (d : PyData) : kitB (tyS d) "str" = some (isStrD d) := by cases d <;> kernel_rfl
theorem ty_list (d : PyData) : kitB (tyS d) "list" = some (isLstD d) := by cases d <;> kernel_rfl
theorem ty_tuple (d : PyData) : kitB (tyS d) "tuple" = some (isTupD d) := by cases d <;> kernel_rfl
section
variable {te ta tb : TE} {Γ : List Sl} {d x y : PyData} {ds es : List PyData} {K : PySem.W.Frag} {ts : TA} {w : World}
theorem ev_isInt (h : EvD ta Γ d) : EvD (tCB (rIsi K) (tCons ta (tCons (tC (.ty "int")) tNil))) Γ (.bool (isIntD d || isBlD d)) := ev_isi h (ty_none d)
theorem ev_isBl (h : EvD ta Γ d) : EvD (tCB (rIsi K) (tCons ta (tCons (tC (.ty "bool")) tNil))) Γ (.bool (isBlD d)) := ev_isi h (ty_bool d)
theorem ev_isStr (h : EvD ta Γ d) : EvD (tCB (rIsi K) (tCons ta (tCons (tC (.ty "str")) tNil))) Γ (.bool (isStrD d)) := ev_isi h (ty_str d)
theorem ev_isLst (h : EvD ta Γ d) : EvD (tCB (rIsi K) (tCons ta (tCons (tC (.ty "list")) tNil))) Γ (.bool (isLstD d)) := ev_isi h (ty_list d)
theorem ev_isTup (h : EvD ta Γ d) : EvD (tCB (rIsi K) (tCons ta (tCons (tC (.ty "tuple")) tNil))) Γ (.bool (isTupD d)) := ev_isi h (ty_tuple d)
theorem ev_isLT (h : EvD ta Γ d) : EvD (tCB (rIsiT K) (tCons ta (tCons (tTup (tCons (tC (.ty "list")) (tCons (tC (.ty "tuple")) tNil))) tNil))) Γ (.bool (isLstD d || isTupD d)) := ev_isiT2 h (ty_list d) (ty_tuple d)

/-! ### list(range(..)), tuple(range(..)) -/
theorem rpRg (F : Hp) (a b : Int) : RpAll F (rgV a b) ((List.range (b - a).toNat).map fun i : Nat => .int (a + i)) := by
  unfold rgV
  generalize List.range (b - a).toNat = l
  induction l with
  | nil => exact .nil
  | cons n l ih => exact .cons (.int _) ih
theorem rp_range (F : Hp) (n : Nat) : RpAll F (rgV 0 n) ((List.range n).map fun i : Nat => .int i) := by
  have h := rpRg F 0 (n : Int)
  rw [show ((n : Int) - 0).toNat = n by omega] at h
  have e : ((List.range n).map fun i : Nat => PyData.int (0 + (i : Int))) = (List.range n).map fun i : Nat => PyData.int i := List.map_congr_left fun i _ => by rw [Int.zero_add]
  rwa [e] at h
theorem en_lstRg {n : Nat} (h : EvD ta Γ (.int (n : Int))) (hn : n ≤ 100000) : EvN (tLstRg (tRg1 ta)) Γ ((List.range n).map fun i : Nat => .int i) := fun C B F H σ w g Q q =>
  h C B F H σ w g _ fun v F1 H1 g1 r1 => ⟨n, r1.int_inv, RgOk.of_le (by omega) (by omega) (by omega) (by omega), fun p hp => q _ F1 _ (g1.trans (.newM g1.fh hp)) ⟨p, _, rfl, g1.fresh hp, g1.fh.none hp, upd_same, rp_range F1 n⟩⟩
theorem ev_tupRg {n : Nat} (h : EvD ta Γ (.int (n : Int))) (hn : n ≤ 100000) : EvD (tTupRg (tRg1 ta)) Γ (.tuple ((List.range n).map fun i : Nat => .int i)) := fun C B F H σ w g Q q =>
  h C B F H σ w g _ fun v F1 H1 g1 r1 => ⟨n, r1.int_inv, RgOk.of_le (by omega) (by omega) (by omega) (by omega), fun p hp => q _ _ _ (g1.trans (.new g1.fh hp)) (.tup upd_same (rp_range _ n))⟩
theorem en_lstRg2 {i j : Int} (ha : EvD ta Γ (.int i)) (hb : EvD tb Γ (.int j)) (h0 : 0 ≤ i) (h1 : j ≤ 100000) (h2 : i ≤ 100000) (h3 : 0 ≤ j) : EvN (tLstRg (tRg2 ta tb)) Γ ((List.range (j - i).toNat).map fun k : Nat => .int (i + k)) := fun C B F H σ w g Q q =>
  ha C B F H σ w g _ fun v F1 H1 g1 r1 => hb C B F1 H1 σ (w.grow g1) (g.grow g1.weak) _ fun u F2 H2 g2 r2 =>
    ⟨i, j, r1.int_inv, r2.int_inv, RgOk.of_le (by omega) (by omega) (by omega) (by omega), fun p hp => q _ F2 _ ((g1.trans g2).trans (.newM g2.fh hp)) ⟨p, _, rfl, (g1.trans g2).fresh hp, g2.fh.none hp, upd_same, rpRg F2 i j⟩⟩
theorem ev_tupRg2 {i j : Int} (ha : EvD ta Γ (.int i)) (hb : EvD tb Γ (.int j)) (h0 : 0 ≤ i) (h1 : j ≤ 100000) (h2 : i ≤ 100000) (h3 : 0 ≤ j) : EvD (tTupRg (tRg2 ta tb)) Γ (.tuple ((List.range (j - i).toNat).map fun k : Nat => .int (i + k))) := fun C B F H σ w g Q q =>
  ha C B F H σ w g _ fun v F1 H1 g1 r1 => hb C B F1 H1 σ (w.grow g1) (g.grow g1.weak) _ fun u F2 H2 g2 r2 =>
    ⟨i, j, r1.int_inv, r2.int_inv, RgOk.of_le (by omega) (by omega) (by omega) (by omega), fun p hp => q _ _ _ ((g1.trans g2).trans (.new g2.fh hp)) (.tup upd_same (rpRg _ i j))⟩

/-! ### in -/
theorem ev_inA (ha : EvD ta Γ x) (hb : RdS tb Γ ds) (h : flatD x = true) (k : ds.all flatD = true) : EvD (tOp (rInA K) ta tb) Γ (.bool (ds.any fun z => PyData.eqv z x)) :=
  ev_opDS ha hb fun F0 H0 F H v p us g0 rv hp r Q q => by
    refine .inl ⟨p, us, rfl, hp.imp SqL.of SqT.of, rv.flat h, r.flatD k, ?_⟩
    rw [inV_eqv rv r h k]
    exact q _ F H (.refl g0.fh) (.bl _)
theorem ev_niA (ha : EvD ta Γ x) (hb : RdS tb Γ ds) (h : flatD x = true) (k : ds.all flatD = true) : EvD (tOp (rNiA K) ta tb) Γ (.bool (!(ds.any fun z => PyData.eqv z x))) :=
  ev_opDS ha hb fun F0 H0 F H v p us g0 rv hp r Q q => by
    refine .inl ⟨p, us, rfl, hp.imp SqL.of SqT.of, rv.flat h, r.flatD k, ?_⟩
    rw [inV_eqv rv r h k]
    exact q _ F H (.refl g0.fh) (.bl _)
theorem ev_inAI {ns : List Int} {k : Int} (ha : EvD ta Γ (.int k)) (hb : RdS tb Γ (ns.map .int)) : EvD (tOp (rInA K) ta tb) Γ (.bool (decide (k ∈ ns))) := (ev_inA ha hb rfl (flat_ints ns)).is (by rw [any_ints])
theorem ev_niAI {ns : List Int} {k : Int} (ha : EvD ta Γ (.int k)) (hb : RdS tb Γ (ns.map .int)) : EvD (tOp (rNiA K) ta tb) Γ (.bool (!decide (k ∈ ns))) := (ev_niA ha hb rfl (flat_ints ns)).is (by rw [any_ints])
theorem ev_inAN {ns : List Nat} {k : Nat} (ha : EvD ta Γ (.int k)) (hb : RdS tb Γ (ns.map fun n : Nat => .int n)) : EvD (tOp (rInA K) ta tb) Γ (.bool (decide (k ∈ ns))) := (ev_inA ha hb rfl (flat_nats ns)).is (by rw [any_nats])
theorem ev_niAN {ns : List Nat} {k : Nat} (ha : EvD ta Γ (.int k)) (hb : RdS tb Γ (ns.map fun n : Nat => .int n)) : EvD (tOp (rNiA K) ta tb) Γ (.bool (!decide (k ∈ ns))) := (ev_niA ha hb rfl (flat_nats ns)).is (by rw [any_nats])
/-- .. of any depth, in a list -/
theorem ev_inAD (ha : EvD ta Γ x) (hb : EvD tb Γ (.list ds)) (h : SeqAt.shaped x = true) (k : SeqAt.shaped (.list ds) = true) : EvD (tOp (rInA K) ta tb) Γ (.bool (ds.any fun z => PyData.eqv z x)) :=
  ev_op ha hb fun F H v u s r1 r2 Q q => .inr ⟨x, ds, (r1.mono s).dp, (r2.mono s).dp, h, k, q _ F H (.refl s) (.bl _)⟩
theorem ev_niAD (ha : EvD ta Γ x) (hb : EvD tb Γ (.list ds)) (h : SeqAt.shaped x = true) (k : SeqAt.shaped (.list ds) = true) : EvD (tOp (rNiA K) ta tb) Γ (.bool (!ds.any fun z => PyData.eqv z x)) :=
  ev_op ha hb fun F H v u s r1 r2 Q q => .inr ⟨x, ds, (r1.mono s).dp, (r2.mono s).dp, h, k, q _ F H (.refl s) (.bl _)⟩

/-! ### sorted(set(tuple of ints)) -/
theorem srt_unique : ∀ {xs ys : List Int}, xs.Pairwise (· < ·) → ys.Pairwise (· < ·) → (∀ k, k ∈ xs ↔ k ∈ ys) → xs = ys
  | [], [], _, _, _ => rfl
  | [], y :: ys, _, _, h => absurd ((h y).mpr List.mem_cons_self) List.not_mem_nil
  | x :: xs, [], _, _, h => absurd ((h x).mp List.mem_cons_self) List.not_mem_nil
  | x :: xs, y :: ys, hx, hy, h => by
    rw [List.pairwise_cons] at hx hy
    have e : x = y := by
      rcases List.mem_cons.mp ((h x).mp List.mem_cons_self) with e | e
      · exact e
      · rcases List.mem_cons.mp ((h y).mpr List.mem_cons_self) with f | f
        · exact f.symm
        · have := hx.1 y f; have := hy.1 x e; omega
    subst e
    rw [srt_unique hx.2 hy.2 fun k => ⟨fun m => ?_, fun m => ?_⟩]
    · rcases List.mem_cons.mp ((h k).mp (List.mem_cons_of_mem _ m)) with e | e
      · have := hx.1 k m; omega
      · exact e
    · rcases List.mem_cons.mp ((h k).mpr (List.mem_cons_of_mem _ m)) with e | e
      · have := hy.1 k m; omega
      · exact e
def rSetT (K : PySem.W.Frag) (w : World) : List V → Hp → VK → Prop := fun vs H Q => ∃ (p : Addr) (ns : List Int), vs = [.ref p] ∧ SqT K H p (ns.map V.int) ∧ ns.length ≤ 1000 ∧
  ∀ q n, n ≤ ns.length → H q = none → Q (.ref q) (upd H q (SetO w q (fun j => decide (j ∈ ns)) n))
theorem cr_setT {X : Cx} (hc : X.calm = true) : CallR X (.type "set") (rSetT X.K X.w) := by
  intro pins s σ H vs us Q I r h
  obtain ⟨p, ns, rfl, hq, hl, q⟩ := h
  rw [Vals.ref1 r]
  obtain ⟨its, rv, pt, hz⟩ := I.tuple hq
  have hi : IntsAre its.toArray.toList ns := ints_of_vals rv
  refine call_set_tupI ns (I.ok.hd hc) (show s.heap.IsTuple p its.toArray from pt) hi (by unfold scanBound; omega) fun h' tk c R1 hcn k => ?_
  exact ⟨.ref _, upd H s.heap.objs.size (SetO X.w s.heap.objs.size (fun j => decide (j ∈ ns)) c), I.laid (t' := tk) k (Nat.le_refl _) (setO_new R1), rfl, q _ c hcn (I.hok.fresh (Nat.le_refl _))⟩
theorem en_sortedSet {ns ms : List Int} (h : EvD ta Γ (.tuple (ns.map .int))) (hz : ns.length < 64) (h1 : ms.Pairwise (· < ·)) (h2 : ∀ k, k ∈ ms ↔ k ∈ ns) : EvN (tCB (rSortedSet w) (tCons (tCB (rSetT K w) (tCons ta tNil)) tNil)) Γ (ms.map .int) := fun C B F H σ wd g Q q =>
  h C B F H σ wd g _ fun v F1 H1 g1 r1 => by
    obtain ⟨p, vs, rfl, f, ra⟩ := r1.tup_inv
    refine ⟨p, ns, rfl, SqT.of (by rw [g1.fh _ _ f, ra.ints]), by omega, fun p' n hn hp' => ?_⟩
    refine ⟨p', _, n, rfl, upd_same, by omega, fun ns' l hs hm hl hn' => ?_⟩
    have g2 := g1.trans (.newM (o := SetO w p' (fun j => decide (j ∈ ns)) n) g1.fh hp')
    have e : ns' = ms := srt_unique hs h1 fun k => by rw [hm k, decide_eq_true_eq, h2 k]
    subst e
    exact q _ F1 _ (g2.trans (.newM g2.fh hn')) ⟨l, _, rfl, g2.fresh hn', g2.fh.none hn', upd_same, .of_ints _⟩
end
end Eh

namespace Eh
open PySem PySem.Spec PyProof.Rows L2 RT

theorem nolen_rt : typeLookup (.type "reversed") "__len__" = pure none := by rw [typeLookup_type, builtinLookup_eq_fast]; kernel_rfl
theorem hint_rt : typeLookup (.type "reversed") "__length_hint__" = pure (some (.builtin "reversed.__length_hint__")) := by rw [typeLookup_type, builtinLookup_eq_fast]; kernel_rfl
section
variable {prog : Program} {w : World} {A : Around} {E : Value → Shared → Prop} {s : Shared}
theorem walksRt (hh : A.handled = none) (I l : Addr) (hne : l ≠ I) (items : Array Value) (hz : items.size ≤ sizeLine) :
    Walks prog w A I [I, l] [I] items.size (fun i v => items[items.size - 1 - i]? = some v) (fun i h => i ≤ items.size ∧ IsRt h I l ((items.size : Int) - 1 - (i : Int)) ∧ IsTup h l items) where
  sub := fun b hb => by simp at hb; simp [hb]
  frame := fun _ _ _ x hk => ⟨x.1, x.2.1.at fun o e => hk I (by simp) o e, let ⟨o, ho, r⟩ := x.2.2; ⟨o, hk l (by simp) o ho, r⟩⟩
  item := fun i s Q E hi x hQ => by
    have e : (items.size : Int) - 1 - (i : Int) = ((items.size - 1 - i : Nat) : Int) := by omega
    have hit := x.2.1
    rw [e] at hit
    have hx : items[items.size - 1 - i]? = some (items[items.size - 1 - i]'(by omega)) := Array.getElem?_eq_getElem (by omega)
    refine next_rt_item hit x.2.2 hx hz fun h' hit' hs' => ?_
    have e2 : ((items.size - 1 - i : Nat) : Int) - 1 = (items.size : Int) - 1 - ((i + 1 : Nat) : Int) := by omega
    rw [e2] at hit'
    exact hQ _ h' (s.toks + 1) hx ⟨hi, hit', let ⟨o, ho, r⟩ := x.2.2; ⟨o, (hs'.2 l hne).trans ho, r⟩⟩ fun b o hb eo => hs'.extBut b o (fun h => hb (by simp [h])) eo
  done := fun s Q E x hQ => by
    have e : (items.size : Int) - 1 - (items.size : Int) = -1 := by omega
    have hit := x.2.1
    rw [e] at hit
    exact next_rt_end hh hit fun h' eb => hQ h' s.toks fun b o hb eo => eb b o (fun h => hb (by simp [h])) eo
  self := fun i s Q E st h => iter_rt st.2.1 h
/-- lists filled from an iterator it of the type T -/
theorem extend_it {R : Result → Shared → Prop} {it : Addr} {fp wr : List Addr} {n : Nat} {P : Nat → Value → Prop} {St : Nat → Heap → Prop} {T : String} (W : Walks prog w A.in1 it fp wr n P St) (hn : n ≤ sizeLine)
    (hT : s.TypeIs (.ref it) T) (h2 : (Value.type T == Value.type "list") = false) (h3 : (Value.type T == Value.type "tuple") = false)
    (hhint : ∀ (Q : Bool → Shared → Prop) (E : Value → Shared → Prop), (∀ b tk, Q b { s with toks := tk }) → wpAny (model prog w) A.in1 (Builtin.List.listLengthHint (.ref it)) Q E s)
    (S : Addr) (res : Value) (c₀ : Nat) (hS : s.heap.get? S = some { cls := .type "list", dict := none, data := .seq #[] c₀, slots := #[] }) (hSf : S ∉ fp) (st : St 0 s.heap) (hi : it ∈ fp)
    (hR : ∀ h' tk acc' c', (∀ b o, b ≠ S → b ∉ wr → s.heap.get? b = some o → h'.get? b = some o) → h'.get? S = some { cls := .type "list", dict := none, data := .seq acc' c', slots := #[] } →
      ItemsOf P acc' n → R (.ok (.ret res)) { s with heap := h', toks := tk }) :
    wpAny (model prog w) A.in1 (Builtin.List.listExtendWith (.ref S) (.ref it) res)
      (fun fin s' => match fin with | .done f => R (.ok f) s' | .again c' => c'.quiet = true ∧ codeAny (model prog w) A c' R s') (fun e s' => R (.error e) s') s := by
  have hSr : S ≠ it := fun e => hSf (e ▸ hi)
  have key : ∀ (h : Heap) (c₁ tk : Nat), St 0 h → (∀ b o, b ≠ S → s.heap.get? b = some o → h.get? b = some o) →
      h.get? S = some { cls := .type "list", dict := none, data := .seq #[] c₁, slots := #[] } → codeAny (model prog w) A (.builtin "list.extend.loop" ⟨[.ref S, .ref it, res], []⟩) R { s with heap := h, toks := tk } := by
    intro h c₁ tk st hk hS₁
    refine codeAny_extend_loopS W.toS hn S hSf res n 0 _ #[] c₁ rfl (Nat.zero_le _) st hS₁ (ItemsOf.nil _) fun s' acc' c' hm hS' hacc => ?_
    rw [Moved.eq_with hm]
    exact hR s'.heap s'.toks acc' c' (fun b o hb hw e => hm.heap b o (fun hmem => (List.mem_cons.mp hmem).elim hb hw) (hk b o hb e)) hS' hacc
  unfold Builtin.List.listExtendWith
  refine wpAny_bind (wpAny_typeOf hT ?_)
  have h1 : Builtin.List.listSameRef (.ref S) (.ref it) = false := by simp [Builtin.List.listSameRef, hSr]
  simp only [h1, h2, h3, Bool.or_false, Bool.false_eq_true, if_false]
  refine wpAny_bind (W.self 0 s _ _ st ?_)
  refine wpAny_bind (wpAny_holding (hhint _ _ fun b tk => ?_))
  refine wpAny_ite_split (fun _ => ?_) (fun _ => wpAny_pure ⟨plainId_quiet F.plain_extend_loop _, key _ c₀ _ st (fun b o _ e => e) hS⟩)
  refine wpAny_bind (wpAny_rule ?_)
  refine wpAny_bind ?_
  show wpAny _ _ (updateSeq S (·.push .none) >>= fun _ => updateSeq S (·.pop)) _ _ _
  refine wpAny_bind (wpAny_updateSeq hS rfl ?_)
  have hS₂ := Heap.get?_update_self (Obj.mapSeq (·.push Value.none)) hS rfl
  refine wpAny_updateSeq (hz := by seq_fits) hS₂ rfl ?_
  have hS₃ := Heap.get?_update_self (Obj.mapSeq (·.pop)) hS₂ rfl
  have oth : ∀ b o, b ≠ S → s.heap.get? b = some o → ((s.heap.update S (Obj.mapSeq (·.push Value.none))).update S (Obj.mapSeq (·.pop))).get? b = some o := fun b o hb e =>
    (Heap.get?_update_other _ _ (Ne.symm hb)).trans ((Heap.get?_update_other _ _ (Ne.symm hb)).trans e)
  exact wpAny_pure ⟨plainId_quiet F.plain_extend_loop _, key _ _ _ (W.frame 0 _ _ st fun b hb o e => oth b o (fun z => hSf (z ▸ hb)) e) oth hS₃⟩
theorem call_list_it {it : Addr} {fp wr : List Addr} {n : Nat} {P : Nat → Value → Prop} {St : Nat → Heap → Prop} {T : String} {Q : Value → Shared → Prop} (W : ∀ A : Around, A.handled = none → Walks prog w A it fp wr n P St) (hh : A.handled = none) (hn : n ≤ sizeLine)
    (hT : s.TypeIs (.ref it) T) (h2 : (Value.type T == Value.type "list") = false) (h3 : (Value.type T == Value.type "tuple") = false)
    (hhint : ∀ (A : Around) (s' : Shared) (Q : Bool → Shared → Prop) (E : Value → Shared → Prop), St 0 s'.heap → (∀ b tk, Q b { s' with toks := tk }) → wpAny (model prog w) A (Builtin.List.listLengthHint (.ref it)) Q E s')
    (st : St 0 s.heap) (hi : it ∈ fp) (hf : ∀ b ∈ fp, b < s.heap.objs.size)
    (hQ : ∀ h' tk acc' c', (∀ b o, b ∉ wr → s.heap.get? b = some o → h'.get? b = some o) →
      h'.get? s.heap.objs.size = some { cls := .type "list", dict := none, data := .seq acc' c', slots := #[] } → ItemsOf P acc' n → Q (.ref s.heap.objs.size) { s with heap := h', toks := tk }) :
    wpAny (model prog w) A (call (.type "list") [.ref it]) Q E s := by
  refine callType_codes (Q₁ := fun obj s₁ => obj = .ref s.heap.objs.size ∧ s₁ = { s with heap := s.heap.push { cls := .type "list", data := .seq #[] } }) F.called_list (F.typeCall_list_1 _) F.entry_list_init
    (code_list_new _ ⟨rfl, rfl⟩) fun obj s₁ h₁ => ?_
  obtain ⟨rfl, rfl⟩ := h₁
  have hS : (s.heap.push { cls := .type "list", data := .seq #[] }).get? s.heap.objs.size = some { cls := .type "list", data := .seq #[] } := Heap.get?_push_size _ rfl
  have hSn : s.heap.objs.size ∉ fp := fun z => Nat.lt_irrefl _ (hf _ z)
  refine ⟨⟨_, hS, rfl⟩, F.args_list_init_2 _ _, ?_⟩
  show wpAny _ _ (do let old ← Builtin.List.listItems (.ref s.heap.objs.size); Builtin.List.listUpdate (.ref s.heap.objs.size) (fun _ => #[]); letGo old.toList.reverse; Builtin.List.listExtendWith (.ref s.heap.objs.size) (.ref it) .none) _ _ _
  refine wpAny_bind ?_
  unfold Builtin.List.listItems
  refine wpAny_bind (wpAny_seqItems hS rfl (wpAny_pure ?_))
  show wpAny _ _ (updateSeq s.heap.objs.size (fun _ => #[]) >>= fun _ => letGo (#[] : Array Value).toList.reverse >>= fun _ => Builtin.List.listExtendWith (.ref s.heap.objs.size) (.ref it) .none) _ _ _
  refine wpAny_bind (wpAny_updateSeq hS rfl ?_)
  have hS₂ := Heap.get?_update_self (Obj.mapSeq (fun _ => (#[] : Array Value))) hS rfl
  have oth : ∀ b o, b ≠ s.heap.objs.size → s.heap.get? b = some o → ((s.heap.push { cls := .type "list", data := .seq #[] }).update s.heap.objs.size (Obj.mapSeq (fun _ => (#[] : Array Value)))).get? b = some o :=
    fun b o hb e => (Heap.get?_update_other _ _ (Ne.symm hb)).trans (Heap.get?_push_of_some _ e)
  refine wpAny_bind (wpAny_letGo ?_)
  obtain ⟨oi, hoi, hci⟩ := id hT
  have hT2 : ({ s with heap := (s.heap.push { cls := .type "list", data := .seq #[] }).update s.heap.objs.size (Obj.mapSeq (fun _ => (#[] : Array Value))) } : Shared).TypeIs (.ref it) T := ⟨oi, oth it oi (Nat.ne_of_lt (hf it hi)) hoi, hci⟩
  have st2 := (W A hh).frame 0 s.heap _ st fun b hb o e => oth b o (Nat.ne_of_lt (hf b hb)) e
  refine extend_it (A := A.in1) (T := T) (W _ hh) hn hT2 h2 h3 (fun Q E q => hhint _ _ Q E st2 q) _ _ _ hS₂ hSn st2 hi fun h' tk acc' c' hk hS' hacc => ?_
  exact ⟨rfl, hQ h' tk acc' c' (fun b o hb e => hk b o (Nat.ne_of_lt (Heap.lt_size e)) hb (oth b o (Nat.ne_of_lt (Heap.lt_size e)) e)) hS' hacc⟩
theorem slot_rt_hint : Slot "reversed" "__length_hint__" "reversed.__length_hint__" :=
  .of (owner := "reversed") (n := "__length_hint__") (by rw [typeLookup_type, builtinLookup_eq_fast]; kernel_rfl) (by decide +kernel) (by decide +kernel) (by decide +kernel)
    (by first | exact .inl (by decide +kernel) | exact .inr (by decide +kernel)) (by rw [isSubtype_type]; kernel_rfl)
theorem entry_rt_hint : entryFor table "reversed.__length_hint__" = some Builtin.«reversed.__length_hint__» := entryFor_of_tree (by kernel_rfl)
theorem args_rt_hint (a : Value) : argsOk "reversed.__length_hint__" ⟨[a], []⟩ := by
  unfold argsOk; rw [signature?_of (id := "reversed.__length_hint__") (n := "__length_hint__".toList.reverse) (o := ['d', 'e', 's', 'r', 'e', 'v', 'e', 'r']) (by kernel_rfl) owner_rt]; kernel_rfl
theorem hintRt {it l : Addr} {items : Array Value} {Q : Bool → Shared → Prop} (hit : IsRt s.heap it l ((items.size : Int) - 1)) (ht : IsTup s.heap l items) (hz : items.size ≤ 16777216)
    (hlen : ∀ (A : Around) (E : Value → Shared → Prop) (s' : Shared) (Q : Value → Shared → Prop), IsTup s'.heap l items → (∀ tk tk', Q (.int items.size tk) { s' with toks := tk' }) → wpAny (model prog w) A (call (.builtin "len") [.ref l]) Q E s')
    (q : ∀ b tk, Q b { s with toks := tk }) : wpAny (model prog w) A (Builtin.List.listLengthHint (.ref it)) Q E s := by
  have hT := hit.typeIs
  obtain ⟨o, ho, hc, hd⟩ := id hit
  unfold Builtin.List.listLengthHint
  refine wpAny_bind (wpAny_specialOf hT nolen_rt ?_)
  show wpAny _ A (specialOf (Value.ref it) (Str.ofString "__length_hint__") >>= _) _ _ _
  refine wpAny_bind (wpAny_specialOf hT hint_rt ?_)
  generalize hid : ("reversed.__length_hint__" : String) = id0
  wp_delta
  rw [show splitId id0 = some ("reversed", "__length_hint__") from by subst hid; decide +kernel]
  subst hid
  refine wpAny_bind (wpAny_isInstance (b := true) hT (by rw [isSubtype_type]; kernel_rfl) ?_)
  refine wpAny_ite_split (fun hab => absurd hab (by decide)) (fun _ => ?_)
  refine wpAny_ite_split (fun hab => absurd hab (by decide +kernel)) (fun _ => ?_)
  refine wpAny_bind (wpAny_rule ?_)
  refine wpAny_bind (wpAny_of_eq (slot_rt_hint.bind _) ?_)
  try dsimp only
  refine wpAny_bind (wpAny_attempt (wpAny_call_entry slot_rt_hint hT entry_rt_hint ?_ (args_rt_hint _)))
  unfold Builtin.«reversed.__length_hint__»
  refine wpAny_bind (wpAny_of_eq (a := Value.ref it) rfl ?_)
  refine wpAny_bind (wpAny_field ho hd (x := .ref l) rfl ?_)
  try dsimp only
  rw [if_neg (show ¬ ((Value.ref l == Value.none) = true) from by simp)]
  refine wpAny_bind (hlen _ _ s _ ht fun tk tk' => ?_)
  refine wpAny_bind (wpAny_of_eq (a := some ((items.size : Nat) : Int)) rfl ?_)
  try dsimp only
  refine wpAny_bind (wpAny_field (s := { s with toks := tk' }) ho hd (x := rawInt ((items.size : Int) - 1)) rfl ?_)
  show wpAny _ _ (if (items.size : Int) < (items.size : Int) - 1 + 1 then _ else _) _ _ _
  rw [if_neg (by omega)]
  refine wpAny_bind (wpAny_mkInt (wpAny_pure ?_))
  refine ⟨_, rfl, ?_⟩
  show wpAny _ A (asInt? (Value.int ((items.size : Int) - 1 + 1) tk') >>= _) _ _ _
  refine wpAny_bind (wpAny_of_eq (a := some ((items.size : Int) - 1 + 1)) rfl ?_)
  have e0 : (items.size : Int) - 1 + 1 = (items.size : Int) := by omega
  rw [e0]
  have f1 : Builtin.List.listFitsIndex (items.size : Int) = true := by
    unfold Builtin.List.listFitsIndex
    rw [Bool.and_eq_true]
    exact ⟨decide_eq_true (by omega), decide_eq_true (by omega)⟩
  have hsl : items.size ≤ sizeLine := by rw [sizeLine_eq]; omega
  have htl : Builtin.List.listTooLong ((items.size : Int).toNat) = false := by
    unfold Builtin.List.listTooLong
    exact decide_eq_false (by rw [Int.toNat_natCast]; exact Nat.not_lt.mpr hsl)
  dsimp only
  rw [f1, if_neg (by decide), if_neg (show ¬ ((items.size : Int) < 0) by omega), htl, if_neg Bool.false_ne_true]
  exact wpAny_pure (q _ _)
end
/-- list(reversed(x)), x a tuple -/
def tListRevT (K : PySem.W.Frag) (te : TE) : TE := fun σ H Q => te σ H fun v H1 => ∃ (a : Addr) (xs : List V), v = .ref a ∧ SqT K H1 a xs ∧ xs.length ≤ 100000 ∧ ∀ q, H1 q = none → Q (.ref q) (upd H1 q (.lst xs.reverse))
theorem pe_listRevT {X : Cx} {e : Expr} {te : TE} {p p2 pos pos2 : Pos} (hc : X.calm = true) (hg : Gl X "list") (hm : X.mg "list" = none) (hg2 : Gl X "reversed") (hm2 : X.mg "reversed" = none) (he : PE X e te)
    (hs : starEach [e] X.env = (false, eval e X.env) :: starEach [] X.env := by rfl)
    (hs2 : starEach [.Call (.Name "reversed" p2) [e] [] pos2] X.env = (false, eval (.Call (.Name "reversed" p2) [e] [] pos2) X.env) :: starEach [] X.env := by rfl) :
    PE X (.Call (.Name "list" p) [.Call (.Name "reversed" p2) [e] [] pos2] [] pos) (tListRevT X.K te) := by
  refine ⟨fun pins s σ H Q I h => ?_⟩
  refine Call_ (ld_blt I hg hm boot_list (PyProof.Rows.callWith_type1 (args_cons (Call_ (ld_blt I hg2 hm2 PyProof.Rows.boot_reversed (PyProof.Rows.callWith_type1 (args_cons (thn (he.run pins s σ H _ I h) fun u s1 ⟨v, H1, I1, r1, q1⟩ => args_nil ?_) hs) hs rfl))) hs2) hs2 rfl))
  obtain ⟨a, xs, ev, hq, hlen, q⟩ := q1
  subst ev
  obtain rfl : u = Value.ref a := r1
  obtain ⟨its, rv, p', hz⟩ := I1.tuple hq
  have hl := rv.length
  have hn63 := line63
  refine call_reversed_tup p' (fun A E Q k => len_tuple p' (by simp only [List.size_toArray] <;> omega) k) (args_nil ?_)
  have k0 : ∀ b o, s1.heap.get? b = some o → (s1.heap.push (rtObj a ((its.toArray.size : Int) - 1))).get? b = some o := fun b o e => Heap.get?_push_of_some _ e
  have I2 : Inv X pins σ H1 { s1 with heap := s1.heap.push (rtObj a ((its.toArray.size : Int) - 1)), toks := s1.toks + 1 + 1 } := I1.kept (t' := s1.toks + 1 + 1) k0
  obtain ⟨f0, f1, f2, f3, f4, f5⟩ := I1.fpOk (H' := H1) (b := s1.heap.objs.size) (Nat.le_refl _) (I1.hok.fresh (Nat.le_refl _))
  obtain ⟨ot, hot, hrt⟩ := id p'
  have hal := Heap.lt_size hot
  have hne : a ≠ s1.heap.objs.size := Nat.ne_of_lt hal
  have hn : its.toArray.size ≤ sizeLine := by rw [List.size_toArray, ← rv.length]; exact hz
  have hsz : (s1.heap.push (rtObj a ((its.toArray.size : Int) - 1))).objs.size = s1.heap.objs.size + 1 := Heap.size_push ..
  have hit : IsRt (s1.heap.push (rtObj a ((its.toArray.size : Int) - 1))) s1.heap.objs.size a ((its.toArray.size : Int) - 1 - ((0 : Nat) : Int)) := ⟨_, Heap.get?_push_size _ rfl, rfl, by simp [rtObj]⟩
  refine call_list_it (s := { s1 with heap := s1.heap.push (rtObj a ((its.toArray.size : Int) - 1)), toks := s1.toks + 1 + 1 }) (T := "reversed") (fun A hh => walksRt hh s1.heap.objs.size a hne its.toArray hn) (I1.ok.hd hc) hn ⟨_, Heap.get?_push_size _ rfl, rfl⟩ (by decide) (by decide)
    (fun A s' Q E st q => ?_) ⟨Nat.zero_le _, hit, ⟨ot, k0 _ _ hot, hrt⟩⟩ (by simp) (fun b hb => ?_) fun h' tk acc c' hk hS hi => ?_
  · refine hintRt (items := its.toArray) (by have z := st.2.1; simpa using z) st.2.2 (by simp only [List.size_toArray]; omega) (fun A E s2 Q p2 k => len_tuple p2 (by simp only [List.size_toArray] <;> omega) (k _ _)) q
  · rcases List.mem_cons.mp hb with e | e
    · rw [e, hsz]; exact Nat.lt_succ_self _
    · rw [List.mem_singleton.mp e, hsz]; exact Nat.lt_succ_of_lt hal
  · have I3 : Inv X pins σ H1 { s1 with heap := h', toks := tk } := I2.turned (t' := tk) (fun b o hb e => hk b o (by simpa using hb) e) f0 f1 f3 f4 f5
    have hb : s1.heap.objs.size + 1 = (s1.heap.push (rtObj a ((its.toArray.size : Int) - 1))).objs.size := hsz.symm
    have J : Inv X pins σ (upd H1 (s1.heap.push (rtObj a ((its.toArray.size : Int) - 1))).objs.size (.lst xs.reverse)) { s1 with heap := h', toks := tk } := by
      refine I2.turnedNew (ch := [s1.heap.objs.size]) (fun b o hb e => hk b o hb e) (fun b hb => ?_) (Nat.le_refl _) (show ObjOk X.prog X.w _ _ _ (.lst xs.reverse) from ⟨by rw [List.length_reverse]; exact hz, acc.toList, c', vals_rev rv hi, ?_⟩)
      · rw [List.mem_singleton.mp hb]; exact ⟨f0, f1, f2, f3, f4, f5⟩
      · rw [Array.toArray_toList]; exact hS
    exact ⟨.ref _, _, J, rfl, q _ (I2.hok.fresh (Nat.le_refl _))⟩
section
variable {te ta tb : TE} {Γ : List Sl} {d x y : PyData} {ds es : List PyData} {K : PySem.W.Frag} {ts : TA}
theorem en_listRevT (h : EvD te Γ (.tuple ds)) (hz : ds.length ≤ 100000) : EvN (tListRevT K te) Γ ds.reverse := fun C B F H σ w g Q q =>
  h C B F H σ w g _ fun v F1 H1 g1 r1 => by
    obtain ⟨a, xs, rfl, f, ra⟩ := r1.tup_inv
    exact ⟨a, xs, rfl, SqT.of (g1.fh _ _ f), by rw [ra.length]; exact hz, fun p hp => q _ F1 _ (g1.trans (.newM g1.fh hp)) ⟨p, _, rfl, g1.fresh hp, g1.fh.none hp, upd_same, ra.reverse⟩⟩
/-- enumerate(..) -/
theorem zip_get {α : Type} (xs : List α) (i : Nat) (k : Nat) : (xs.zipIdx k)[i]? = (xs[i]?).map fun x => (x, i + k) := by
  rw [List.getElem?_zipIdx]
  cases xs[i]? with
  | none => rfl
  | some x => simp [Nat.add_comm]
theorem wk_enumL {a : Addr} {vs : List V} {F H : Hp} {ds : List PyData} (s : Sub F H) (h : H a = some (.lst vs)) (r : RpAll F vs ds) :
    (∀ i d, (ds.zipIdx.map fun p => PyData.tuple [.int p.2, p.1])[i]? = some d → (Ite K a).go i H ∧ ∀ x H', (Ite K a).yld i H x H' → ∃ F', Grow [] F H F' H' ∧ Rp F' x d) ∧ (Ite K a).stop (ds.zipIdx.map fun p => PyData.tuple [.int p.2, p.1]).length H :=
  ⟨fun i d e => by
    rw [List.getElem?_map, zip_get] at e
    cases q : ds[i]? with
    | none => rw [q] at e; cases e
    | some y =>
      rw [q] at e
      cases e
      obtain ⟨v, h1, h2⟩ := r.get q
      refine ⟨⟨vs, v, SqL.of h, h1⟩, fun x H' ⟨T, z, e1, e2, e3, e4⟩ => ?_⟩
      subst e1 e3
      have e5 := e4 vs (SqL.of h)
      rw [h1] at e5; cases e5
      exact ⟨_, .new s e2, .tup upd_same (.cons (by rw [Nat.add_zero]; exact .int _) (.cons (h2.mono (Sub.new (s.none e2))) .nil))⟩, ⟨vs, SqL.of h, by rw [r.length]; simp⟩⟩
theorem wk_enumT {a : Addr} {vs : List V} {F H : Hp} {ds : List PyData} (s : Sub F H) (h : H a = some (.tup vs)) (r : RpAll F vs ds) :
    (∀ i d, (ds.zipIdx.map fun p => PyData.tuple [.int p.2, p.1])[i]? = some d → (IteT K a).go i H ∧ ∀ x H', (IteT K a).yld i H x H' → ∃ F', Grow [] F H F' H' ∧ Rp F' x d) ∧ (IteT K a).stop (ds.zipIdx.map fun p => PyData.tuple [.int p.2, p.1]).length H :=
  ⟨fun i d e => by
    rw [List.getElem?_map, zip_get] at e
    cases q : ds[i]? with
    | none => rw [q] at e; cases e
    | some y =>
      rw [q] at e
      cases e
      obtain ⟨v, h1, h2⟩ := r.get q
      refine ⟨⟨vs, v, SqT.of h, h1⟩, fun x H' ⟨T, z, e1, e2, e3, e4⟩ => ?_⟩
      subst e1 e3
      have e5 := e4 vs (SqT.of h)
      rw [h1] at e5; cases e5
      exact ⟨_, .new s e2, .tup upd_same (.cons (by rw [Nat.add_zero]; exact .int _) (.cons (h2.mono (Sub.new (s.none e2))) .nil))⟩, ⟨vs, SqT.of h, by rw [r.length]; simp⟩⟩
theorem ih_enum (h : RdS te Γ ds) : IterH (iEnumA K (tCons te tNil)) Γ (ds.zipIdx.map fun p => .tuple [.int p.2, p.1]) := fun C B F H σ w g R r => h C B F H σ w g _ fun v F1 H1 g1 ⟨p, vs, e, l, ra⟩ => by
  subst e
  refine ⟨p, rfl, ?_⟩
  rcases l with l | l
  · exact .inl ⟨⟨vs, SqL.of l⟩, r _ F1 H1 g1 fun F2 H2 g2 => wk_enumL g2.fh (g2.sub _ _ l) (ra.mono g2.ff)⟩
  · exact .inr ⟨⟨vs, SqT.of l⟩, r _ F1 H1 g1 fun F2 H2 g2 => wk_enumT g2.fh (g2.sub _ _ l) (ra.mono g2.ff)⟩
theorem if_enumL (h : EvD te Γ (.list ds)) : IterF (iEnumA K (tCons te tNil)) Γ (ds.zipIdx.map fun p => .tuple [.int p.2, p.1]) := fun C B F H σ w g R r => h C B F H σ w g _ fun v F1 H1 g1 r1 => by
  obtain ⟨p, vs, rfl, l, ra⟩ := Rp.lst_inv r1
  exact ⟨p, rfl, .inl ⟨⟨vs, SqL.of (g1.fh _ _ l)⟩, r _ F1 H1 g1 fun F2 H2 s1 s2 => wk_enumL s2 (s2 _ _ (s1 _ _ l)) (ra.mono s1)⟩⟩
theorem if_enumT (h : EvD te Γ (.tuple ds)) : IterF (iEnumA K (tCons te tNil)) Γ (ds.zipIdx.map fun p => .tuple [.int p.2, p.1]) := fun C B F H σ w g R r => h C B F H σ w g _ fun v F1 H1 g1 r1 => by
  obtain ⟨p, vs, rfl, l, ra⟩ := Rp.tup_inv r1
  exact ⟨p, rfl, .inr ⟨⟨vs, SqT.of (g1.fh _ _ l)⟩, r _ F1 H1 g1 fun F2 H2 s1 s2 => wk_enumT s2 (s2 _ _ (s1 _ _ l)) (ra.mono s1)⟩⟩
end
end Eh

namespace Eh
open PySem PySem.Spec PyProof.Rows L2

/-! ### try, except: what the text says -/
section
variable {X : Cx} {a : Addr} {oe : Obj} {cls : Value} {d : Option Addr} {pn : List (Addr × Obj)}
/-- isinstance(e, c) of the caught error, of a class without a dict of its own -/
def rIsX (K : PySem.W.Frag) (a : Addr) (cls : Value) (d : Option Addr) : List V → Hp → VK → Prop := fun xs H Q => ∃ D, cls = .ref D ∧ d = none ∧ ExcC K D ∧ rIsE K D a xs H Q
theorem call_isX (hz : L2N.Zn cls d oe) (hf : ∃ vs, oe.data = .fields vs) : CallR (X.suite a ((a, oe) :: pn)) (.builtin "isinstance") (rIsX X.K a cls d) := by
  intro pins s σ H xs us Q I r h
  obtain ⟨D, rfl, rfl, C, h⟩ := h
  exact call_isE C hz.zc hf pins s σ H xs us Q I r h
theorem hot_of (hz : L2N.Zn cls d oe) (hf : ∃ vs, oe.data = .fields vs) : L2H.HotC (X.suite a ((a, oe) :: pn)) := by
  obtain ⟨vs, e⟩ := hf
  exact ⟨(a, oe), ⟨rfl, vs, e, hz.2.2 vs e⟩, List.mem_cons_self⟩
theorem dCallS {k j : Nat} {x : Str} {sp : Sp} {W : WX} {e : Expr} {es : List Expr} {t : TA} {p pos : Pos} (c : Cl X.prog X.w X.K X.mg X.base k x sp) (hr : Room j X.A) (hk : k ≤ j) (hg : Gl X x) (tk : L2N.Takes X W) (ha : PA X (e :: es) t)
    (hdb : (x == ("__debug__" : Str)) = false := by decide) (he : starEach (e :: es) X.env = (false, eval e X.env) :: starEach es X.env := by rfl) (hpl : (backTo pos (starEach es X.env)).any (·.1) = false := by rfl) :
    PE X (.Call (.Name x p) (e :: es) [] pos) (tCallS sp (WE W) t) := by
  obtain ⟨f, fd, ps, F, m, kp, b⟩ := c.ex
  exact pe_callS F (hr.mono hk) hg m kp b (fun σ => L2N.passAt tk σ) ha hdb he hpl
end
def tTryAs (K : PySem.W.Frag) (c : Value) (i : Nat) (ts : Addr → Value → Option Addr → TS) (Wout : WX) (tb : WX → TS) : TS := fun D σ H => tb (wAs K c i ts Wout D) D σ H
/-! ### .. and what it does -/
def XAt (C : Pc) (B F0 : Hp) (Γ : List Sl) (W : WX) (c : Addr) (f : Option (List (Str × V))) : Prop := ∀ F H σ cv dd, Wd C F H → Grow C.S F0 B F H → Gm C B F H σ Γ → XcOk c f cv dd H → W cv dd σ H
section
variable {C : Pc} {B F0 : Hp} {Γ : List Sl} {te ta tb : TE} {tt : TT} {tA : TA} {D : Ends} {i : Nat} {d : PyData} {ds es : List PyData} {K : PySem.W.Frag} {W Wout : WX} {R : List PyData → Out → Prop} {o : Out} {J c : Addr} {ts : Addr → Value → Option Addr → TS}
theorem at_dropS (h : EvA tA Γ ds) (hR : R ds o) (hok : ∀ d, o = .ok d → At C B F0 Γ D.nx) (hx : ∀ c f, o = .err c f → XAt C B F0 Γ W c f) : At C B F0 Γ (tDrop (tCallS (spR R) (WE W) tA) D) := fun F H σ w g e =>
  h C B F H σ w e _ fun vs F1 H1 g1 r1 => ⟨F1, ds, o, g1.fh, r1, hR, fun d e2 v F2 H2 g2 r2 => hok d e2 F2 H2 σ ((w.grow g1).grow g2) (g.trans (g1.trans g2).weak) (e.grow (g1.trans g2).weak),
    fun c f e2 cv dd F2 H2 g2 x => hx c f e2 F2 H2 σ cv dd ((w.grow g1).grow g2) (g.trans (g1.trans g2).weak) (e.grow (g1.trans g2).weak) x⟩
theorem xat_as (hm : PySem.W.exmOne K (.ref c) (.ref J) = some true)
    (h : ∀ a, At C B F0 (Γ.set i (.ref a)) (ts a (.ref c) none { nx := fun σ' H' => D.nx (σ'.set i none) H', rt := D.rt, bk := fun σ' H' => D.bk (σ'.set i none) H', ct := fun σ' H' => D.ct (σ'.set i none) H' })) :
    XAt C B F0 Γ (wAs K (.ref J) i ts Wout D) c none := fun F H σ cv dd w g e ⟨x1, x2⟩ => by
  subst x1
  have x3 : dd = none := x2
  subst x3
  exact ⟨true, hm, fun _ a ha => h a F H _ w g (e.set (s := .ref a) rfl fun _ z => nomatch z), fun z => nomatch z⟩
/-- behind the suite -/
theorem at_unset {P : L2.St → Hp → Prop} (h : At C B F0 (Γ.set i .no) P) : At C B F0 Γ (fun σ H => P (σ.set i none) H) := fun F H σ w g e => h F H _ w g (e.forget none)
theorem ev_isX {a D : Addr} {cv : Value} {x : V} {b : Bool} (hi : Γ[i]? = some (.ref a)) (hC : ExcC K D) (hk : PySem.W.kitOne K (.ref D) cv = some b) (hx : ∀ u, RelV x u → u = cv) :
    EvD (tCB (rIsX K a (.ref D) none) (tCons (tVar i) (tCons (tC x) tNil))) Γ (.bool b) := fun C B F H σ w g Q q =>
  ⟨_, g.ok i _ hi, D, rfl, rfl, hC, x, cv, b, rfl, hx, hk, q _ F H (.refl w.sub) (.bl b)⟩
theorem ev_isXr {a D E : Addr} {b : Bool} (hi : Γ[i]? = some (.ref a)) (hC : ExcC K D) (hk : PySem.W.kitOne K (.ref D) (.ref E) = some b) : EvD (tCB (rIsX K a (.ref D) none) (tCons (tVar i) (tCons (tC (.ref E)) tNil))) Γ (.bool b) :=
  ev_isX hi hC hk fun u r => r
theorem ev_isXt {a D : Addr} {T : String} {b : Bool} (hi : Γ[i]? = some (.ref a)) (hC : ExcC K D) (hk : PySem.W.kitOne K (.ref D) (.type T) = some b) : EvD (tCB (rIsX K a (.ref D) none) (tCons (tVar i) (tCons (tC (.ty T)) tNil))) Γ (.bool b) :=
  ev_isX hi hC hk fun u r => r
theorem ih_list (h : RdL te Γ ds) : IterH (iList K te) Γ ds := fun C B F H σ w g R r => h C B F H σ w g _ fun v F1 H1 g1 ⟨p, vs, e, l, ra⟩ => by
  subst e
  exact ⟨p, rfl, ⟨vs, SqL.of l⟩, r _ F1 H1 g1 fun F2 H2 g2 => wk_list g2.fh (g2.sub _ _ l) (ra.mono g2.ff)⟩
end
/-! ### facts of the text's errors, as Bools -/
def excCB (K : PySem.W.Frag) (D : Addr) : Bool := decide (PySem.W.findIn K (.ref D) "__getattribute__" = some (some (.builtin "BaseException.__getattribute__"))) && (decide (PySem.W.findIn K (.ref D) "__getattr__" = some none) && (decide (PySem.W.subIn K (.ref D) (.type "BaseException") = some true) &&
  (PySem.W.hasDictIn K D && (decide (PySem.W.findIn K (.ref D) "__class__" = some (some (.builtin "object.__class__"))) && (decide (PySem.W.specialIn K (.builtin "object.__class__") "__get__" = some (some (.builtin "getset_descriptor.__get__"))) &&
  (decide (PySem.W.takesIn K (.builtin "object.__class__") = some true) && decide (PySem.W.mroIn K D (.type "object") = some true)))))))
theorem excCB_ok {K : PySem.W.Frag} {D : Addr} (h : excCB K D = true) : ExcC K D := by
  unfold excCB at h
  simp only [Bool.and_eq_true, decide_eq_true_eq] at h
  obtain ⟨h1, h2, h3, h4, h5, h6, h7, h8⟩ := h
  exact ⟨h1, h2, h3, h4, h5, h6, h7, h8⟩
def kitNB (K : PySem.W.Frag) (D : Addr) (v : Value) (b : Bool) : Bool := decide (PySem.W.kitOne K (.ref D) v = some b)
def exmNB (K : PySem.W.Frag) (D J : Addr) (b : Bool) : Bool := decide (PySem.W.exmOne K (.ref D) (.ref J) = some b)
def noAtB (K : PySem.W.Frag) (D : Addr) (n : Str) : Bool := decide (PySem.W.findIn K (.ref D) n = some none)
/-- a Hook with more Bools -/
def hookE (n : Nat) (fa : List He.Fa) (fn : List He.DefD) (ex : List (PySem.W.Frag → Bool)) : PySem.W.Hook where
  α := He.AlD × Bool
  obs := fun s => (He.obsDG n fa fn s.heap.get?, ex.all fun f => f (He.frG s.heap.get? (He.asD s.heap.get? n)))
  val := fun _ => (He.valD fn, true)
  says := fun _ h => ∃ K : PySem.W.Frag, K.In h ∧ He.SaysD fa fn K ∧ ∀ f ∈ ex, f K = true
  of := fun _ _ e => ⟨_, He.frG_in, congrArg (fun z : He.AlD × Bool => z.1) e, List.all_eq_true.mp (congrArg (fun z : He.AlD × Bool => z.2) e)⟩
  keeps := fun _ _ _ ⟨K, hK, c⟩ k => ⟨K, PySem.W.Frag.In.keeps hK k, c⟩
def obE (n : Nat) (fa : List He.Fa) (fn : List He.DefD) (ex : List (PySem.W.Frag → Bool)) (g : Addr → Option Obj) : He.AlD × Bool := (He.obsDG n fa fn g, ex.all fun f => f (He.frG g (He.asD g n)))
theorem obE_eq {n : Nat} {fa : List He.Fa} {fn : List He.DefD} {ex : List (PySem.W.Frag → Bool)} {g : Addr → Option Obj} {s : Shared} (h : ∀ a, g a = s.heap.get? a) : obE n fa fn ex g = (hookE n fa fn ex).obs s := by
  have e : g = s.heap.get? := funext h
  rw [e] <;> rfl
end Eh

namespace Eh
open PySem PySem.Spec PyProof.Rows L2

/-! ### what stands exactly -/
def Ex (te : TE) (σ : L2.St) (H : Hp) (v : V) (H' : Hp) : Prop := ∀ Q : VK, Q v H' → te σ H Q
def ExT (tt : TT) (σ : L2.St) (H : Hp) (b : Bool) (H' : Hp) : Prop := ∀ Q : Bool → Hp → Prop, Q b H' → tt σ H Q
section
variable {te ta tb : TE} {tt tu : TT} {σ : L2.St} {H H1 H2 : Hp} {v u : V} {i j : Int} {K : PySem.W.Frag} {D : Ends} {t : TS}
theorem ex_var {n : Nat} (h : σ[n]? = some (some v)) : Ex (tVar n) σ H v H := fun Q q => ⟨v, h, q⟩
theorem ex_c : Ex (tC v) σ H v H := fun Q q => q
theorem ex_add (a : Ex ta σ H (.int i) H1) (b : Ex tb σ H1 (.int j) H2) : Ex (tOp (rAddA K) ta tb) σ H (.int (i + j)) H2 := fun Q q => a _ (b _ (.inl ⟨i, j, rfl, rfl, q⟩))
theorem ex_mul (a : Ex ta σ H (.int i) H1) (b : Ex tb σ H1 (.int j) H2) (c : CMul i j) : Ex (tOp (rMulA K) ta tb) σ H (.int (i * j)) H2 := fun Q q => a _ (b _ (.inl ⟨i, j, rfl, rfl, c, q⟩))
theorem ex_mod (a : Ex ta σ H (.int i) H1) (b : Ex tb σ H1 (.int j) H2) (c : 0 < j) : Ex (tOp rModI ta tb) σ H (.int (i % j)) H2 := fun Q q => a _ (b _ ⟨i, j, rfl, rfl, c, q⟩)
theorem ex_div (a : Ex ta σ H (.int i) H1) (b : Ex tb σ H1 (.int j) H2) (c : CDiv i j) : Ex (tOp rDivI ta tb) σ H (.int (i / j)) H2 := fun Q q => a _ (b _ ⟨i, j, rfl, rfl, c, q⟩)
theorem ex_int (a : Ex ta σ H (.int i) H1) : Ex (tCB rIntA (tCons ta tNil)) σ H (.int i) H1 := fun Q q => a _ (.inl ⟨i, rfl, q⟩)
theorem ex_ix {p : Addr} {xs : List V} (a : Ex ta σ H (.ref p) H1) (b : Ex tb σ H1 (.int i) H2) (h : H2 p = some (.lst xs)) (e : atI xs i = some v) : Ex (tOp (rIx K) ta tb) σ H v H2 := fun Q q => a _ (b _ (.inl ⟨p, xs, i, v, rfl, rfl, SqL.of h, e, q⟩))
theorem ex_len {p : Addr} {xs : List V} (a : Ex ta σ H (.ref p) H1) (h : H1 p = some (.lst xs)) : Ex (tCB (rLenA K) (tCons ta tNil)) σ H (.int xs.length) H1 := fun Q q => a _ (.inl ⟨p, xs, rfl, .inl (SqL.of h), q⟩)
theorem ex_gt (a : Ex ta σ H (.int i) H1) (b : Ex tb σ H1 (.int j) H2) : ExT (tTest (tOp rGtI ta tb)) σ H (decide (j < i)) H2 := fun Q q => a _ (b _ ⟨i, j, rfl, rfl, _, rfl, q⟩)
theorem ex_eq (a : Ex ta σ H (.int i) H1) (b : Ex tb σ H1 (.int j) H2) : ExT (tTest (tOp (rEqA K) ta tb)) σ H (decide (i = j)) H2 := fun Q q => a _ (b _ (.inl ⟨rfl, _, rfl, by
  rw [show decide (V.int i = V.int j) = decide (i = j) by rw [dec_int, Bool.beq_eq_decide_eq]]
  exact q⟩))
theorem ex_and {a b : Bool} (h : ExT tt σ H a H1) (k : a = true → ExT tu σ H1 b H2) (n : a = false → H1 = H2) : ExT (tAnd tt tu) σ H (a && b) H2 := fun Q q => h _ (by
  cases a with
  | true => exact k rfl Q q
  | false => rw [← n rfl] at q; exact q)
theorem ex_pop {p : Addr} {xs : List V} {k : Nat} (a : Ex ta σ H (.ref p) H1) (b : Ex tb σ H1 (.int (k : Int)) H2) (h1 : H1 p = some (.lst xs)) (h : H2 p = some (.lst xs)) (hk : xs[k]? = some v) (hz : xs.length < 100000) :
    Ex (tBM K "list" rPopAt ta (tCons tb tNil)) σ H v (upd H2 p (.lst (xs.eraseIdx k))) := fun Q q => a _ (by
  have hl := (List.getElem?_eq_some_iff.mp hk).1
  exact ⟨.inl ⟨rfl, xs, SqL.of h1⟩, b _ ⟨p, xs, (k : Nat), k, v, rfl, rfl, h, by omega, by omega, seqIndex_of (by omega) (by omega), hk, q⟩⟩)
theorem sx_asg {n : Nat} (h : Ex te σ H v H1) (k : D.nx (σ.set n (some v)) H1) : tAsg te (gName n) D σ H := h _ k
theorem sx_set {n : Int} {m : Nat} {p : Addr} {xs : List V} (h : Ex te σ H v H1) (a : Ex ta σ H1 (.ref p) H1) (b : Ex tb σ H1 (.int n) H1) (hp : H1 p = some (.lst xs)) (hk : ixN xs.length n = some m) (k : D.nx σ (upd H1 p (.lst (xs.set m v)))) :
    tAsg te (gSub ta tb rSetL) D σ H := h _ (a _ (b _ ⟨p, xs, n, m, rfl, rfl, hp, hk, k⟩))
theorem ixN_nat {n k : Nat} (h : k < n) : ixN n (k : Int) = some k := by
  unfold ixN
  rw [if_pos (by omega), if_pos (by omega)]; simp
theorem ex_ixN {p : Addr} {xs : List V} (k : Nat) (a : Ex ta σ H (.ref p) H1) (b : Ex tb σ H1 (.int (k : Int)) H2) (h : H2 p = some (.lst xs)) (e : xs[k]? = some v) : Ex (tOp (rIx K) ta tb) σ H v H2 := ex_ix a b h (atI_nat e)
theorem sx_setN (m : Nat) {p : Addr} {xs : List V} (h : Ex te σ H v H1) (a : Ex ta σ H1 (.ref p) H1) (b : Ex tb σ H1 (.int (m : Int)) H1) (hp : H1 p = some (.lst xs)) (hk : m < xs.length) (k : D.nx σ (upd H1 p (.lst (xs.set m v)))) :
    tAsg te (gSub ta tb rSetL) D σ H := sx_set h a b hp (ixN_nat hk) k
theorem sx_ret (h : Ex te σ H v H1) (k : D.rt v H1) : tRet te D σ H := h _ k
theorem sx_if {b : Bool} {u : TS} (h : ExT tt σ H b H1) (k1 : b = true → t D σ H1) (k2 : b = false → u D σ H1) : tIfS tt t u D σ H := h _ (by
  cases b with
  | true => exact k1 rfl
  | false => exact k2 rfl)
end
/-! ### a frozen list that is read -/
theorem FzL.sq {K : PySem.W.Frag} {S : List Addr} {H : Hp} {a : Addr} {xs : List V} (h : FzL K S H a xs) : SqL K H a xs := by
  rcases h with ⟨o, h, _⟩ | h
  · exact .inl (.inr ⟨o, h⟩)
  · exact .inr h
section
variable {te ta tb : TE} {Γ : List Sl} {K : PySem.W.Frag} {a : Addr}
theorem ev_lenZ {i : Nat} {xs : List V} (h : Γ[i]? = some (.fz K a xs)) : EvD (tCB (rLenA K) (tCons (tVar i) tNil)) Γ (.int xs.length) := fun C B F H σ w g Q q => by
  obtain ⟨e, k⟩ := g.ok i _ h
  exact ⟨_, e, .inl ⟨a, xs, rfl, .inl k.sq, q _ F H (.refl w.sub) (.int _)⟩⟩
theorem ev_ixZ {i : Nat} {ns : List Int} {n : Nat} {m : Int} (h : Γ[i]? = some (.fz K a (ns.map V.int))) (hb : EvD tb Γ (.int (n : Int))) (e : ns[n]? = some m) : EvD (tOp (rIx K) (tVar i) tb) Γ (.int m) := fun C B F H σ w g Q q => by
  obtain ⟨e1, k⟩ := g.ok i _ h
  refine ⟨_, e1, hb C B F H σ w g _ fun v F1 H1 g1 r1 => ?_⟩
  obtain ⟨_, k2⟩ := (g.grow (F' := F1) (H' := H1) g1.weak).ok i _ h
  rw [r1.int_inv]
  exact .inl ⟨a, ns.map V.int, (n : Nat), .int m, rfl, rfl, k2.sq, atI_nat (by rw [List.getElem?_map, e]; rfl), q _ F1 H1 g1 (.int _)⟩
end
end Eh

namespace Eh
open PySem PySem.Spec PyProof.Rows L2

/-! ### what a text does, by data alone: continuations over data -/
abbrev XP := Str → Option (List (Str × V)) → Prop
abbrev MW (α : Type) := (α → Prop) → XP → Prop
abbrev WD := MW PyData
abbrev WL := MW (List PyData)
abbrev WT := MW Bool
def noX : XP := fun _ _ => False
abbrev DP := PyData → Prop
abbrev OpW := PyData → PyData → DP → Prop
@[reducible] def intW (d : PyData) (k : Int → Prop) : Prop := match d with | .int i => k i | _ => False
@[reducible] def boolW (d : PyData) (k : Bool → Prop) : Prop := match d with | .bool b => k b | _ => False
@[reducible] def seqW (d : PyData) (k : List PyData → Prop) : Prop := match d with | .list xs => k xs | .tuple xs => k xs | _ => False
@[reducible] def lstW (d : PyData) (k : List PyData → Prop) : Prop := match d with | .list xs => k xs | _ => False
@[reducible] def addW : OpW := fun x y k => match x, y with
  | .int i, .int j => k (.int (i + j)) | .tuple xs, .tuple ys => xs.length + ys.length ≤ 100000 ∧ k (.tuple (xs ++ ys))
  | .list xs, .list ys => xs.length + ys.length ≤ 100000 ∧ k (.list (xs ++ ys)) | _, _ => False
@[reducible] def opI (c : Int → Int → Prop) (f : Int → Int → PyData) : OpW := fun x y k => match x, y with | .int i, .int j => c i j ∧ k (f i j) | _, _ => False
@[reducible] def opJ (f : Int → Int → PyData) : OpW := fun x y k => match x, y with | .int i, .int j => k (f i j) | _, _ => False
@[reducible] def subW : OpW := opJ fun i j => .int (i - j)
@[reducible] def mulW : OpW := fun x y k => match x, y with
  | .int i, .int j => CMul i j ∧ k (.int (i * j)) | .tuple xs, .int j => xs ≠ [] ∧ 0 ≤ j ∧ j ≤ 1000 ∧ xs.length ≤ 1000 ∧ k (.tuple (List.replicate j.toNat xs).flatten) | _, _ => False
@[reducible] def modW : OpW := opI (fun _ j => 0 < j) fun i j => .int (i % j)
@[reducible] def divW : OpW := opI CDiv fun i j => .int (i / j)
@[reducible] def powW : OpW := opI CPow fun i j => .int (i ^ j.toNat)
@[reducible] def shlW : OpW := opI CPow fun i j => .int (i * 2 ^ j.toNat)
@[reducible] def shrW : OpW := opI (fun _ j => 0 ≤ j) fun i j => .int (i / 2 ^ j.toNat)
@[reducible] def bandW : OpW := opJ fun i j => .int (Builtin.bitAnd i j)
@[reducible] def borW : OpW := opJ fun i j => .int (Builtin.bitOr i j)
@[reducible] def bxorW : OpW := opJ fun i j => .int (Builtin.bitXor i j)
@[reducible] def ltW : OpW := opJ fun i j => .bool (decide (i < j))
@[reducible] def leW : OpW := opJ fun i j => .bool (decide (i ≤ j))
@[reducible] def gtW : OpW := opJ fun i j => .bool (decide (j < i))
@[reducible] def geW : OpW := opJ fun i j => .bool (decide (j ≤ i))
def eqW : OpW := fun x y k => SeqAt.shaped x = true ∧ SeqAt.shaped y = true ∧ k (.bool (PyData.eqv x y))
def neW : OpW := fun x y k => SeqAt.shaped x = true ∧ SeqAt.shaped y = true ∧ k (.bool (!PyData.eqv x y))
@[reducible] def isNW : PyData → DP → Prop := fun x k => k (.bool (isNon x))
@[reducible] def notNW : PyData → DP → Prop := fun x k => k (.bool (!isNon x))
@[reducible] def negW : PyData → DP → Prop := fun x k => match x with | .int i => k (.int (-i)) | _ => False
@[reducible] def notW : PyData → DP → Prop := fun x k => match x with | .bool b => k (.bool (!b)) | _ => False
/-- in: flat items in a list or tuple; anything in a list -/
def inW (x : PyData) (ys : List PyData) (k : DP) : Prop := flatD x = true ∧ ys.all flatD = true ∧ k (.bool (ys.any fun z => PyData.eqv z x))
def niW (x : PyData) (ys : List PyData) (k : DP) : Prop := flatD x = true ∧ ys.all flatD = true ∧ k (.bool (!ys.any fun z => PyData.eqv z x))
def inLW (x y : PyData) (k : DP) : Prop := match y with | .list ds => SeqAt.shaped x = true ∧ SeqAt.shaped (.list ds) = true ∧ k (.bool (ds.any fun z => PyData.eqv z x)) | _ => False
def niLW (x y : PyData) (k : DP) : Prop := match y with | .list ds => SeqAt.shaped x = true ∧ SeqAt.shaped (.list ds) = true ∧ k (.bool (!ds.any fun z => PyData.eqv z x)) | _ => False
def ixW (xs : List PyData) (i : PyData) (k : DP) : Prop := match i with | .int n => ∃ d, atI xs n = some d ∧ k d | _ => False
@[reducible] def lenW (xs : List PyData) (k : DP) : Prop := k (.int xs.length)
@[reducible] def cintW (x : PyData) (k : DP) : Prop := match x with | .int i => k (.int i) | .bool b => k (.int (if b then 1 else 0)) | _ => False
@[reducible] def absW (x : PyData) (k : DP) : Prop := match x with | .int i => k (.int (if i < 0 then -i else i)) | _ => False
@[reducible] def strW (x : PyData) (k : DP) : Prop := match x with | .int i => i.natAbs.log2 < 1920 ∧ k (.str (toString i)) | _ => False
@[reducible] def min2W : OpW := opJ fun i j => .int (if j < i then j else i)
@[reducible] def max2W : OpW := opJ fun i j => .int (if j > i then j else i)
def allW (xs : List PyData) (k : DP) : Prop := ∃ bs : List Bool, xs = bs.map .bool ∧ k (.bool (bs.all id))
def anyW (xs : List PyData) (k : DP) : Prop := ∃ bs : List Bool, xs = bs.map .bool ∧ k (.bool (bs.any id))
def sumW (xs : List PyData) (k : DP) : Prop := ∃ ns : List Int, xs = ns.map .int ∧ k (.int ns.sum)
def minW (xs : List PyData) (k : DP) : Prop := ∃ (ns : List Int) (m : Int), xs = ns.map .int ∧ m ∈ ns ∧ (∀ j ∈ ns, m ≤ j) ∧ k (.int m)
def maxW (xs : List PyData) (k : DP) : Prop := ∃ (ns : List Int) (m : Int), xs = ns.map .int ∧ m ∈ ns ∧ (∀ j ∈ ns, j ≤ m) ∧ k (.int m)
@[reducible] def isIntW (x : PyData) (k : DP) : Prop := k (.bool (isIntD x || isBlD x))
@[reducible] def isBlW (x : PyData) (k : DP) : Prop := k (.bool (isBlD x))
@[reducible] def isStrW (x : PyData) (k : DP) : Prop := k (.bool (isStrD x))
@[reducible] def isLstW (x : PyData) (k : DP) : Prop := k (.bool (isLstD x))
@[reducible] def isTupW (x : PyData) (k : DP) : Prop := k (.bool (isTupD x))
@[reducible] def isLTW (x : PyData) (k : DP) : Prop := k (.bool (isLstD x || isTupD x))
@[reducible] def letW {α : Type} (a : α) (k : α → Prop) : Prop := k a
def dispT (xs : List PyData) (k : DP) : Prop := xs.length ≤ 100000 ∧ k (.tuple xs)
def dispL (xs : List PyData) (k : List PyData → Prop) : Prop := xs.length ≤ 100000 ∧ k xs
@[reducible] def fzW (xs : List PyData) (k : DP) : Prop := k (.list xs)
def catW (xs ys : List PyData) (k : List PyData → Prop) : Prop := xs.length + ys.length ≤ 100000 ∧ k (xs ++ ys)
@[reducible] def cutW (xs : List PyData) (lo hi : Option Int) (k : List PyData → Prop) : Prop := k (cutD xs lo hi)
@[reducible] def augW (f : Int → Int → Int) (x y : PyData) (k : DP) : Prop := match x, y with | .int a, .int b => k (.int (f a b)) | _, _ => False
@[reducible] def tupW (xs : List PyData) (k : DP) : Prop := k (.tuple xs)
def iteW (b : Bool) (p q : Prop) : Prop := match b with | true => p | false => q
@[reducible] def joinW {κ : Type} (f : κ → Prop) (k : κ) : Prop := f k
def andW (t u : (Bool → Prop) → Prop) (k : Bool → Prop) : Prop := t fun b => iteW b (u k) (k false)
def orW (t u : (Bool → Prop) → Prop) (k : Bool → Prop) : Prop := t fun b => iteW b (k true) (u k)
@[reducible] def andVW (t u : DP → Prop) (k : DP) : Prop := t fun x => boolW x fun b => iteW b (u k) (k (.bool false))
@[reducible] def orVW (t u : DP → Prop) (k : DP) : Prop := t fun x => boolW x fun b => iteW b (k (.bool true)) (u k)
@[reducible] def chainW (o o' : OpW) (x y : PyData) (c : DP → Prop) (k : DP) : Prop := o x y fun r => boolW r fun b => iteW b (c fun z => o' y z k) (k (.bool false))
def lcGo (body : PyData → DP → Prop → Prop) : List PyData → (List PyData → Prop) → Prop
  | [], k => k []
  | x :: xs, k => body x (fun d => lcGo body xs fun l => k (d :: l)) (lcGo body xs k)
def lcW (items : List PyData) (body : PyData → DP → Prop → Prop) (k : List PyData → Prop) : Prop := items.length ≤ 100000 ∧ lcGo body items k
def lcMW (items : List PyData) (body : PyData → DP → Prop) (k : List PyData → Prop) : Prop := lcW items (fun x Y _ => body x Y) k
def rgI (n : Int) : List PyData := (List.range n.toNat).map fun i : Nat => .int i
def rgIJ (i j : Int) : List PyData := (List.range (j - i).toNat).map fun k : Nat => .int (i + k)
def rngW (x : PyData) (k : List PyData → Prop) : Prop := match x with | .int n => -100000 ≤ n ∧ n ≤ 100000 ∧ k (rgI n) | _ => False
def rgLW (x : PyData) (k : List PyData → Prop) : Prop := match x with | .int n => 0 ≤ n ∧ n ≤ 100000 ∧ k (rgI n) | _ => False
def rng2W (x y : PyData) (k : List PyData → Prop) : Prop := match x, y with | .int i, .int j => -100000 ≤ i ∧ i ≤ 100000 ∧ j ≤ 100000 ∧ -100000 ≤ j ∧ k (rgIJ i j) | _, _ => False
def enumD (xs : List PyData) : List PyData := xs.zipIdx.map fun p => .tuple [.int p.2, p.1]
@[reducible] def un2W (x : PyData) (k : PyData → PyData → Prop) : Prop := match x with | .tuple [a, b] => k a b | _ => False
@[reducible] def un3W (x : PyData) (k : PyData → PyData → PyData → Prop) : Prop := match x with | .tuple [a, b, c] => k a b c | _ => False
def forW {σ : Type} (body : PyData → σ → (σ → Prop) → (σ → Prop) → Prop) (done : σ → Prop) : List PyData → σ → Prop
  | [], s => done s
  | x :: xs, s => body x s (fun s' => forW body done xs s') done
def whileW {σ : Type} (s0 : σ) (cond : σ → (Bool → Prop) → Prop) (body : σ → (σ → Prop) → (σ → Prop) → Prop) (done : σ → Prop) : Prop :=
  ∃ (I : σ → Prop) (μ : σ → Nat), I s0 ∧ ∀ s, I s → cond s fun b => iteW b (body s (fun s' => I s' ∧ μ s' < μ s) done) (done s)
def appW (xs : List PyData) (d : PyData) (k : List PyData → Prop) : Prop := xs.length < 100000 ∧ k (xs ++ [d])
def extW (xs ys : List PyData) (k : List PyData → Prop) : Prop := xs.length + ys.length ≤ 100000 ∧ k (xs ++ ys)
def setW (xs : List PyData) (i d : PyData) (k : List PyData → Prop) : Prop := match i with | .int n => ∃ j, ixN xs.length n = some j ∧ k (xs.set j d) | _ => False
def popW (xs : List PyData) (i : PyData) (k : PyData → List PyData → Prop) : Prop := match i with
  | .int n => xs.length ≤ 100000 ∧ 0 ≤ n ∧ n < xs.length ∧ ∀ d, xs[n.toNat]? = some d → k d (xs.eraseIdx n.toNat) | _ => False
def slW (xs : List PyData) (lo hi : Option Int) : List PyData := cutD xs lo hi
def drawW (x : PyData) (k : DP) : Prop := match x with | .int n => 0 < n ∧ n < 1073741824 ∧ ∀ r : Int, 0 ≤ r → r < n → k (.int r) | _ => False

/-! ### what an expression is to do -/
variable {A : Str → Addr} {C : Pc} {E : L2.St → XK} {Γ Γ' : List Sl} {K : PySem.W.Frag} {w : World}
def XOk (A : Str → Addr) (C : Pc) (F H : Hp) (E : XK) (X : XP) : Prop := ∀ n f cv dd F' H', Grow C.S F H F' H' → Wd C F' H' → X n f → XcOk (A n) f cv dd H' → E cv dd H'
theorem XOk.go {F H F1 H1 : Hp} {X : XP} {E : XK} (x : XOk A C F H E X) (g : Grow C.S F H F1 H1) : XOk A C F1 H1 E X := fun n f cv dd F' H' g' => x n f cv dd F' H' (g.trans g')
def Jw {α : Type} (A : Str → Addr) (C : Pc) (E : L2.St → XK) (te : TE) (Γ : List Sl) (R : Hp → Hp → V → α → Hp → Hp → Prop) (m : MW α) : Prop :=
  ∀ P X, m P X → ∀ (B F H : Hp) (σ : L2.St), Wd C F H → Gm C B F H σ Γ → ∀ Q : VK, (∀ v F' H' a, Grow C.S F H F' H' → Wd C F' H' → P a → R F H v a F' H' → Q v H') → XOk A C F H (E σ) X → te σ H Q
def RD : Hp → Hp → V → PyData → Hp → Hp → Prop := fun _ _ v d F' _ => Rp F' v d
def RNn (C : Pc) : Hp → Hp → V → List PyData → Hp → Hp → Prop := fun _ H v ds F' H' => ∃ p vs, v = .ref p ∧ H p = none ∧ F' p = none ∧ p ∉ C.S ∧ H' p = some (.lst vs) ∧ RpAll F' vs ds
def RSs (C : Pc) : Hp → Hp → V → List PyData → Hp → Hp → Prop := fun _ _ v ds F' H' => ∃ p vs, v = .ref p ∧ p ∉ C.S ∧ (H' p = some (.lst vs) ∨ H' p = some (.tup vs)) ∧ RpAll F' vs ds
def RLs (C : Pc) : Hp → Hp → V → List PyData → Hp → Hp → Prop := fun _ _ v ds F' H' => ∃ p vs, v = .ref p ∧ p ∉ C.S ∧ H' p = some (.lst vs) ∧ RpAll F' vs ds
abbrev Ew (A : Str → Addr) (C : Pc) (E : L2.St → XK) (te : TE) (Γ : List Sl) (m : WD) : Prop := Jw A C E te Γ RD m
abbrev Nw (A : Str → Addr) (C : Pc) (E : L2.St → XK) (te : TE) (Γ : List Sl) (m : WL) : Prop := Jw A C E te Γ (RNn C) m
abbrev Sw (A : Str → Addr) (C : Pc) (E : L2.St → XK) (te : TE) (Γ : List Sl) (m : WL) : Prop := Jw A C E te Γ (RSs C) m
abbrev Lw (A : Str → Addr) (C : Pc) (E : L2.St → XK) (te : TE) (Γ : List Sl) (m : WL) : Prop := Jw A C E te Γ (RLs C) m
def Tw (A : Str → Addr) (C : Pc) (E : L2.St → XK) (tt : TT) (Γ : List Sl) (m : WT) : Prop :=
  ∀ P X, m P X → ∀ (B F H : Hp) (σ : L2.St), Wd C F H → Gm C B F H σ Γ → ∀ Q : Bool → Hp → Prop, (∀ b F' H', Grow C.S F H F' H' → Wd C F' H' → P b → Q b H') → XOk A C F H (E σ) X → tt σ H Q
def Aw (A : Str → Addr) (C : Pc) (E : L2.St → XK) (ta : TA) (Γ : List Sl) (m : WL) : Prop :=
  ∀ P X, m P X → ∀ (B F H : Hp) (σ : L2.St), Wd C F H → Gm C B F H σ Γ → ∀ Q : List V → Hp → Prop, (∀ vs F' H' ds, Grow C.S F H F' H' → Wd C F' H' → P ds → RpAll F' vs ds → Q vs H') → XOk A C F H (E σ) X → ta σ H Q
def Ow (A : Str → Addr) (C : Pc) (E : L2.St → XK) (to : TO) (Γ : List Sl) (m : MW (Option Int)) : Prop :=
  ∀ P X, m P X → ∀ (B F H : Hp) (σ : L2.St), Wd C F H → Gm C B F H σ Γ → ∀ Q : Option Int → Hp → Prop, (∀ o F' H', Grow C.S F H F' H' → Wd C F' H' → P o → Q o H') → XOk A C F H (E σ) X → to σ H Q
/-- items, of a comprehension; of a for -/
def Iw (A : Str → Addr) (C : Pc) (E : L2.St → XK) (wi : TI) (Γ : List Sl) (m : WL) : Prop :=
  ∀ P X, m P X → ∀ (B F H : Hp) (σ : L2.St), Wd C F H → Gm C B F H σ Γ → ∀ R : It → Hp → Prop, (∀ J F' H' ds, Grow C.S F H F' H' → Wd C F' H' → P ds → WkS C.S J F' H' ds → R J H') → XOk A C F H (E σ) X → wi σ H R
def Fw (A : Str → Addr) (C : Pc) (E : L2.St → XK) (wi : TI) (Γ : List Sl) (m : WL) : Prop :=
  ∀ P X, m P X → ∀ (B F H : Hp) (σ : L2.St), Wd C F H → Gm C B F H σ Γ → ∀ R : It → Hp → Prop, (∀ J F' H' ds, Grow C.S F H F' H' → Wd C F' H' → P ds → WkF J F' ds → R J H') → XOk A C F H (E σ) X → wi σ H R
section
variable {te ta tb tc : TE} {tt tu : TT} {ts : TA} {m ma mb mc : WD} {l la lb : WL} {mt mu : WT} {d : PyData} {ds : List PyData} {i : Nat}
theorem WkF.s {C : Pc} {J : It} {F H : Hp} {ds : List PyData} (k : WkF J F ds) : WkS C.S J F H ds := fun F2 H2 g2 => k F2 H2 g2.ff g2.fh
theorem Fw.it {wi : TI} (h : Fw A C E wi Γ l) : Iw A C E wi Γ l := fun P X hm B F H σ wd g R r x => h P X hm B F H σ wd g R (fun J F' H' ds g1 w1 p k => r J F' H' ds g1 w1 p k.s) x
/-- what is known without draws -/
theorem ew_d (h : EvD te Γ d) : Ew A C E te Γ (fun P _ => P d) := fun P X hm B F H σ wd g Q q _ => h C B F H σ wd g Q fun v F' H' gr r => q v F' H' d gr.weak (wd.grow gr) hm r
theorem ew_var (h : Γ[i]? = some (.dat d)) : Ew A C E (tVar i) Γ (fun P _ => P d) := ew_d (ev_var h)
theorem ew_int {n : Int} : Ew A C E (tC (.int n)) Γ (fun P _ => P (.int n)) := ew_d ev_int
theorem ew_bl {b : Bool} : Ew A C E (tC (.bl b)) Γ (fun P _ => P (.bool b)) := ew_d ev_bl
theorem ew_non : Ew A C E (tC .non) Γ (fun P _ => P .none) := ew_d ev_non
theorem ew_str {s : Str} : Ew A C E (tC (.str s)) Γ (fun P _ => P (.str s)) := ew_d ev_str
theorem sw_own (h : Γ[i]? = some (.own ds)) : Sw A C E (tVar i) Γ (fun P _ => P ds) := fun P X hm B F H σ wd g Q q _ => by
  obtain ⟨p, vs, e, l, f, b, n, r⟩ := g.ok i _ h
  exact ⟨_, e, q _ F H ds (.refl wd.sub) wd hm ⟨p, vs, rfl, n, .inl l, r⟩⟩
theorem lw_own (h : Γ[i]? = some (.own ds)) : Lw A C E (tVar i) Γ (fun P _ => P ds) := fun P X hm B F H σ wd g Q q _ => by
  obtain ⟨p, vs, e, l, f, b, n, r⟩ := g.ok i _ h
  exact ⟨_, e, q _ F H ds (.refl wd.sub) wd hm ⟨p, vs, rfl, n, l, r⟩⟩
theorem Jw.imp {α β : Type} {R : Hp → Hp → V → α → Hp → Hp → Prop} {R' : Hp → Hp → V → β → Hp → Hp → Prop} {m : MW α} {m' : MW β} (h : Jw A C E te Γ R m)
    (i : ∀ P X, m' P X → ∃ P', m P' X ∧ ∀ F H v a F' H', Wd C F H → Grow C.S F H F' H' → Wd C F' H' → P' a → R F H v a F' H' → ∃ b F'', Grow C.S F H F'' H' ∧ Wd C F'' H' ∧ P b ∧ R' F H v b F'' H') : Jw A C E te Γ R' m' :=
  fun P X hm B F H σ wd g Q q x => by
    obtain ⟨P', hm', k⟩ := i P X hm
    refine h P' X hm' B F H σ wd g Q (fun v F' H' a g1 w1 p r => ?_) x
    obtain ⟨b, F'', g2, w2, p2, r2⟩ := k F H v a F' H' wd g1 w1 p r
    exact q v F'' H' b g2 w2 p2 r2
theorem Nw.fz (h : Nw A C E te Γ l) : Ew A C E te Γ (fun P X => l (fun ds => fzW ds P) X) := h.imp fun P X hm => ⟨_, hm, fun F H v ds F' H' wd gr w1 p ⟨a, vs, e, n, f, s, hl, r⟩ => by
  subst e
  exact ⟨_, upd F' a (.lst vs), gr.freeze n hl f, w1.freeze s hl f, p, .lst upd_same (r.mono (Sub.new f))⟩⟩
theorem Nw.s (h : Nw A C E te Γ l) : Sw A C E te Γ l := h.imp fun P X hm => ⟨_, hm, fun F H v ds F' H' wd gr w1 p ⟨a, vs, e, n, f, s, hl, r⟩ => ⟨_, F', gr, w1, p, a, vs, e, s, .inl hl, r⟩⟩
theorem Nw.ls (h : Nw A C E te Γ l) : Lw A C E te Γ l := h.imp fun P X hm => ⟨_, hm, fun F H v ds F' H' wd gr w1 p ⟨a, vs, e, n, f, s, hl, r⟩ => ⟨_, F', gr, w1, p, a, vs, e, s, hl, r⟩⟩
theorem notS {F H : Hp} (wd : Wd C F H) {a : Addr} {o : HO} (f : F a = some o) : a ∉ C.S := fun z => by
  have := wd.sF a z
  rw [f] at this; cases this
theorem Ew.s (h : Ew A C E te Γ m) : Sw A C E te Γ (fun P X => m (fun d => seqW d P) X) := h.imp fun P X hm => ⟨_, hm, fun F H v d F' H' wd gr w1 p r => by
  unfold seqW at p
  cases r with
  | lst f ra => exact ⟨_, F', gr, w1, p, _, _, rfl, notS w1 f, .inl (w1.sub _ _ f), ra⟩
  | tup f ra => exact ⟨_, F', gr, w1, p, _, _, rfl, notS w1 f, .inr (w1.sub _ _ f), ra⟩
  | _ => exact p.elim⟩
theorem Ew.ls (h : Ew A C E te Γ m) : Lw A C E te Γ (fun P X => m (fun d => lstW d P) X) := h.imp fun P X hm => ⟨_, hm, fun F H v d F' H' wd gr w1 p r => by
  unfold lstW at p
  cases r with
  | lst f ra => exact ⟨_, F', gr, w1, p, _, _, rfl, notS w1 f, w1.sub _ _ f, ra⟩
  | _ => exact p.elim⟩
theorem Lw.s (h : Lw A C E te Γ l) : Sw A C E te Γ l := h.imp fun P X hm => ⟨_, hm, fun F H v ds F' H' wd gr w1 p ⟨a, vs, e, s, hl, r⟩ => ⟨_, F', gr, w1, p, a, vs, e, s, .inl hl, r⟩⟩
theorem ew_let (h : Ew A C E te Γ (fun P _ => P d)) : Ew A C E te Γ (fun P _ => letW d P) := fun P X hm => h P X hm
theorem sw_let (h : Sw A C E te Γ (fun P _ => P ds)) : Sw A C E te Γ (fun P _ => letW ds P) := fun P X hm => h P X hm
theorem lw_let (h : Lw A C E te Γ (fun P _ => P ds)) : Lw A C E te Γ (fun P _ => letW ds P) := fun P X hm => h P X hm
/-! operators -/
def RVw (r : R2) (op : OpW) : Prop := ∀ x y k, op x y k → ∃ d, k d ∧ RV r x y d
theorem ew_op {r : R2} {op : OpW} (hr : RVw r op) (ha : Ew A C E ta Γ ma) (hb : Ew A C E tb Γ mb) : Ew A C E (tOp r ta tb) Γ (fun P X => ma (fun x => mb (fun y => op x y P) X) X) :=
  fun P X hm B F H σ wd g Q q xo => ha _ X hm B F H σ wd g _ (fun v F1 H1 x g1 w1 h1 r1 => hb _ X h1 B F1 H1 σ w1 (g.grow g1) _ (fun u F2 H2 y g2 w2 h2 r2 => by
    obtain ⟨d, pd, rv⟩ := hr x y P h2
    exact rv F2 H2 v u g2.fh (Rp.mono g2.ff r1) r2 Q fun z F3 H3 g3 r3 => q z F3 H3 d ((g1.trans g2).trans g3.weak) (w2.grow g3) pd r3) (xo.go g1)) xo
theorem rvI {r : R2} {c : Int → Int → Prop} {f : Int → Int → PyData} (h : ∀ i j, c i j → RV r (.int i) (.int j) (f i j)) : RVw r (opI c f) := fun x y k hk => by
  unfold opI at hk
  split at hk
  · exact ⟨_, hk.2, h _ _ hk.1⟩
  · exact hk.elim
theorem rvJ {r : R2} {f : Int → Int → PyData} (h : ∀ i j, RV r (.int i) (.int j) (f i j)) : RVw r (opJ f) := fun x y k hk => by
  unfold opJ at hk
  split at hk
  · exact ⟨_, hk, h _ _⟩
  · exact hk.elim
theorem ov_sub : RVw rSubI subW := rvJ fun i j => rv_sub
theorem ov_mod : RVw rModI modW := rvI fun i j h => rv_mod h
theorem ov_div : RVw rDivI divW := rvI fun i j h => rv_div h
theorem ov_pow : RVw rPowI powW := rvI fun i j h => rv_I (g := fun i j => .int (i ^ j.toNat)) h fun F => .int _
theorem ov_shl : RVw rShlI shlW := rvI fun i j h => rv_I (g := fun i j => .int (i * 2 ^ j.toNat)) h fun F => .int _
theorem ov_shr : RVw rShrI shrW := rvI fun i j h => rv_I (g := fun i j => .int (i / 2 ^ j.toNat)) h fun F => .int _
theorem ov_band : RVw rAndI bandW := rvJ fun i j => rv_I0 (g := fun i j => .int (Builtin.bitAnd i j)) fun F => .int _
theorem ov_bor : RVw rOrI borW := rvJ fun i j => rv_I0 (g := fun i j => .int (Builtin.bitOr i j)) fun F => .int _
theorem ov_bxor : RVw rXorI bxorW := rvJ fun i j => rv_I0 (g := fun i j => .int (Builtin.bitXor i j)) fun F => .int _
theorem ov_lt : RVw rLtI ltW := rvJ fun i j => rv_I0 (g := fun i j => .bl (decide (i < j))) fun F => .bl _
theorem ov_le : RVw rLeI leW := rvJ fun i j => rv_I0 (g := fun i j => .bl (decide (i ≤ j))) fun F => .bl _
theorem ov_gt : RVw rGtI gtW := rvJ fun i j => rv_I0 (g := fun i j => .bl (decide (j < i))) fun F => .bl _
theorem ov_ge : RVw rGeI geW := rvJ fun i j => rv_I0 (g := fun i j => .bl (decide (j ≤ i))) fun F => .bl _
theorem ov_eq : RVw (rEqA K) eqW := fun x y k ⟨h1, h2, h3⟩ => ⟨_, h3, fun F H v u s r1 r2 Q q => .inr ⟨x, y, (r1.mono s).dp, (r2.mono s).dp, h1, h2, q _ F H (.refl s) (.bl _)⟩⟩
theorem ov_ne : RVw (rNeA K) neW := fun x y k ⟨h1, h2, h3⟩ => ⟨_, h3, fun F H v u s r1 r2 Q q => .inr ⟨x, y, (r1.mono s).dp, (r2.mono s).dp, h1, h2, q _ F H (.refl s) (.bl _)⟩⟩
theorem rv_catT {xs ys : List PyData} (hz : xs.length + ys.length ≤ 100000) : RV (rAddA K) (.tuple xs) (.tuple ys) (.tuple (xs ++ ys)) := fun F H v u s r1 r2 Q q => by
  obtain ⟨a, us, rfl, h1, q1⟩ := r1.tup_inv
  obtain ⟨b, vs, rfl, h2, q2⟩ := r2.tup_inv
  refine .inr (.inr ⟨a, b, us, vs, rfl, rfl, SqT.of (s _ _ h1), SqT.of (s _ _ h2), by rw [q1.length, q2.length]; exact size_ok hz, fun e => ?_, fun _ e => ?_, fun _ _ p hp => ?_⟩)
  · subst e; cases q1
    exact q _ F H (.refl s) (.tup h2 q2)
  · subst e; cases q2
    exact q _ F H (.refl s) (by rw [List.append_nil]; exact .tup h1 q1)
  · exact q _ _ _ (.new s hp) (.tup upd_same ((q1.append q2).mono (Sub.new (s.none hp))))
theorem rv_catL {xs ys : List PyData} (hz : xs.length + ys.length ≤ 100000) : RV (rAddA K) (.list xs) (.list ys) (.list (xs ++ ys)) := fun F H v u s r1 r2 Q q => by
  obtain ⟨a, us, rfl, h1, q1⟩ := r1.lst_inv
  obtain ⟨b, vs, rfl, h2, q2⟩ := r2.lst_inv
  refine .inr (.inl ⟨a, b, us, vs, rfl, rfl, s _ _ h1, s _ _ h2, by rw [q1.length, q2.length]; exact size_ok hz, fun p hp => ?_⟩)
  exact q _ _ _ (.new s hp) (.lst upd_same ((q1.append q2).mono (Sub.new (s.none hp))))
theorem ov_add : RVw (rAddA K) addW := fun x y k hk => by
  unfold addW at hk
  split at hk
  · exact ⟨_, hk, rv_add⟩
  · exact ⟨_, hk.2, rv_catT hk.1⟩
  · exact ⟨_, hk.2, rv_catL hk.1⟩
  · exact hk.elim
theorem ov_mul : RVw (rMulA K) mulW := fun x y k hk => by
  unfold mulW at hk
  split at hk
  · exact ⟨_, hk.2, rv_mul hk.1⟩
  · rename_i xs j
    obtain ⟨h1, h2, h3, h4, h5⟩ := hk
    refine ⟨_, h5, fun F H v u s r1 r2 Q q => ?_⟩
    obtain ⟨a, us, rfl, e1, q1⟩ := r1.tup_inv
    rw [r2.int_inv]
    have ne : us ≠ [] := fun e => h1 (by subst e; cases q1; rfl)
    by_cases hj : 2 ≤ j
    · refine .inr (.inr (.inl ⟨a, j, us, rfl, rfl, SqT.of (s _ _ e1), ne, hj, h3, by rw [q1.length]; exact h4, fun p hp => ?_⟩))
      refine q _ _ _ (.new s hp) (.tup upd_same (RpAll.mono (Sub.new (s.none hp)) ?_))
      generalize j.toNat = n
      induction n with
      | zero => exact .nil
      | succ n ih => rw [List.replicate_succ, List.replicate_succ, List.flatten_cons, List.flatten_cons]; exact q1.append ih
    · refine .inr (.inr (.inr ⟨a, j, us, rfl, rfl, SqT.of (s _ _ e1), ne, ?_⟩))
      have : j = 0 ∨ j = 1 := by omega
      rcases this with rfl | rfl
      · exact .inr ⟨rfl, fun p hp => q _ _ _ (.new s hp) (.tup upd_same .nil)⟩
      · exact .inl ⟨rfl, q _ F H (.refl s) (by show Rp F _ (.tuple (xs ++ [])); rw [List.append_nil]; exact .tup e1 q1)⟩
  · exact hk.elim
theorem ew_isN (ha : Ew A C E ta Γ ma) : Ew A C E (tOp rIsN ta (tC .non)) Γ (fun P X => ma (fun x => isNW x P) X) :=
  fun P X hm B F H σ wd g Q q xo => ha _ X hm B F H σ wd g _ (fun v F1 H1 x g1 w1 h1 r1 => ⟨rfl, by rw [r1.isNon]; exact q _ F1 H1 _ g1 w1 h1 (.bl _)⟩) xo
theorem ew_notN (ha : Ew A C E ta Γ ma) : Ew A C E (tOp rNotN ta (tC .non)) Γ (fun P X => ma (fun x => notNW x P) X) :=
  fun P X hm B F H σ wd g Q q xo => ha _ X hm B F H σ wd g _ (fun v F1 H1 x g1 w1 h1 r1 => ⟨rfl, by rw [r1.isNon]; exact q _ F1 H1 _ g1 w1 h1 (.bl _)⟩) xo
theorem ew_neg (ha : Ew A C E ta Γ ma) : Ew A C E (tUn rNegI ta) Γ (fun P X => ma (fun x => negW x P) X) :=
  fun P X hm B F H σ wd g Q q xo => ha _ X hm B F H σ wd g _ (fun v F1 H1 x g1 w1 h1 r1 => by
    unfold negW at h1
    split at h1
    · rw [Rp.int_inv r1]; exact ⟨_, rfl, q _ F1 H1 _ g1 w1 h1 (.int _)⟩
    · exact h1.elim) xo
/-! arguments -/
theorem aw_nil : Aw A C E tNil Γ (fun P _ => P []) := fun P X hm B F H σ wd g Q q _ => q [] F H [] (.refl wd.sub) wd hm .nil
theorem aw_cons (ha : Ew A C E ta Γ ma) (hb : Aw A C E ts Γ l) : Aw A C E (tCons ta ts) Γ (fun P X => ma (fun x => l (fun xs => P (x :: xs)) X) X) :=
  fun P X hm B F H σ wd g Q q xo => ha _ X hm B F H σ wd g _ (fun v F1 H1 x g1 w1 h1 r1 => hb _ X h1 B F1 H1 σ w1 (g.grow g1) _ (fun vs F2 H2 xs g2 w2 h2 r2 =>
    q _ F2 H2 _ (g1.trans g2) w2 h2 (.cons (r1.mono g2.ff) r2)) (xo.go g1)) xo
theorem ew_tup (h : Aw A C E ts Γ l) : Ew A C E (tTup ts) Γ (fun P X => l (fun xs => dispT xs P) X) :=
  fun P X hm B F H σ wd g Q q xo => h _ X hm B F H σ wd g _ (fun vs F1 H1 xs g1 w1 h1 r1 => ⟨by rw [r1.length]; exact size_ok h1.1, fun p hp => by
    have gn : Grow [] F1 H1 (upd F1 p (.tup vs)) (upd H1 p (.tup vs)) := .new g1.fh hp
    exact q _ _ _ _ (g1.trans gn.weak) (w1.grow gn) h1.2 (.tup upd_same (r1.mono (Sub.new (g1.fh.none hp))))⟩) xo
theorem newM_wd {F H : Hp} {p : Addr} {o : HO} (wd : Wd C F H) (hp : H p = none) : Wd C F (upd H p o) := wd.grow (.newM wd.sub hp)
theorem nw_lst (h : Aw A C E ts Γ l) : Nw A C E (tLst ts) Γ (fun P X => l (fun xs => dispL xs P) X) :=
  fun P X hm B F H σ wd g Q q xo => h _ X hm B F H σ wd g _ (fun vs F1 H1 xs g1 w1 h1 r1 => ⟨by rw [r1.length]; exact size_ok h1.1, fun p hp =>
    q _ F1 _ _ (g1.trans (.newM g1.fh hp)) (newM_wd w1 hp) h1.2 ⟨p, vs, rfl, g1.fresh hp, g1.fh.none hp, fun z => w1.sH p z hp, upd_same, r1⟩⟩) xo
/-! reading lists -/
theorem ew_len (h : Sw A C E ta Γ l) : Ew A C E (tCB (rLenA K) (tCons ta tNil)) Γ (fun P X => l (fun xs => lenW xs P) X) :=
  fun P X hm B F H σ wd g Q q xo => h _ X hm B F H σ wd g _ (fun v F1 H1 xs g1 w1 h1 ⟨p, vs, e, _, hl, r⟩ => by
    subst e
    refine .inl ⟨p, vs, rfl, hl.imp SqL.of SqT.of, ?_⟩
    rw [r.length]
    exact q _ F1 H1 _ g1 w1 h1 (.int _)) xo
theorem ew_ix (ha : Sw A C E ta Γ l) (hb : Ew A C E tb Γ mb) : Ew A C E (tOp (rIx K) ta tb) Γ (fun P X => l (fun xs => mb (fun i => ixW xs i P) X) X) :=
  fun P X hm B F H σ wd g Q q xo => ha _ X hm B F H σ wd g _ (fun v F1 H1 xs g1 w1 h1 ⟨p, vs, e, n, hl, r⟩ => hb _ X h1 B F1 H1 σ w1 (g.grow g1) _ (fun u F2 H2 y g2 w2 h2 r2 => by
    subst e
    unfold ixW at h2
    split at h2
    · rename_i i
      obtain ⟨d, hd, pd⟩ := h2
      rw [r2.int_inv]
      obtain ⟨j, e1, e2⟩ : ∃ j, ixN xs.length i = some j ∧ xs[j]? = some d := by
        unfold atI at hd
        cases e : ixN xs.length i with
        | none => rw [e] at hd; cases hd
        | some j => rw [e] at hd; exact ⟨j, rfl, hd⟩
      obtain ⟨v, h3, h4⟩ := r.get e2
      have a : atI vs i = some v := by unfold atI; rw [r.length, e1]; exact h3
      rcases hl with hl | hl
      · exact .inl ⟨p, vs, i, v, rfl, rfl, SqL.of (g2.hh _ _ n hl), a, q v F2 H2 d (g1.trans g2) w2 pd (h4.mono g2.ff)⟩
      · exact .inr (.inl ⟨p, vs, i, v, rfl, rfl, SqT.of (g2.hh _ _ n hl), a, q v F2 H2 d (g1.trans g2) w2 pd (h4.mono g2.ff)⟩)
    · exact h2.elim) (xo.go g1)) xo
theorem ew_in (ha : Ew A C E ta Γ ma) (hb : Sw A C E tb Γ l) : Ew A C E (tOp (rInA K) ta tb) Γ (fun P X => ma (fun x => l (fun ys => inW x ys P) X) X) :=
  fun P X hm B F H σ wd g Q q xo => ha _ X hm B F H σ wd g _ (fun v F1 H1 x g1 w1 h1 r1 => hb _ X h1 B F1 H1 σ w1 (g.grow g1) _ (fun u F2 H2 ys g2 w2 h2 ⟨p, us, e, n, hl, r⟩ => by
    subst e
    obtain ⟨f1, f2, pk⟩ := h2
    have r1' := Rp.mono g2.ff r1
    refine .inl ⟨p, us, rfl, hl.imp SqL.of SqT.of, r1'.flat f1, r.flatD f2, ?_⟩
    rw [inV_eqv r1' r f1 f2]
    exact q _ F2 H2 _ (g1.trans g2) w2 pk (.bl _)) (xo.go g1)) xo
theorem ew_ni (ha : Ew A C E ta Γ ma) (hb : Sw A C E tb Γ l) : Ew A C E (tOp (rNiA K) ta tb) Γ (fun P X => ma (fun x => l (fun ys => niW x ys P) X) X) :=
  fun P X hm B F H σ wd g Q q xo => ha _ X hm B F H σ wd g _ (fun v F1 H1 x g1 w1 h1 r1 => hb _ X h1 B F1 H1 σ w1 (g.grow g1) _ (fun u F2 H2 ys g2 w2 h2 ⟨p, us, e, n, hl, r⟩ => by
    subst e
    obtain ⟨f1, f2, pk⟩ := h2
    have r1' := Rp.mono g2.ff r1
    refine .inl ⟨p, us, rfl, hl.imp SqL.of SqT.of, r1'.flat f1, r.flatD f2, ?_⟩
    rw [inV_eqv r1' r f1 f2]
    exact q _ F2 H2 _ (g1.trans g2) w2 pk (.bl _)) (xo.go g1)) xo
theorem ew_inL (ha : Ew A C E ta Γ ma) (hb : Ew A C E tb Γ mb) : Ew A C E (tOp (rInA K) ta tb) Γ (fun P X => ma (fun x => mb (fun y => inLW x y P) X) X) := ew_op (op := inLW) (fun x y k hk => by
  unfold inLW at hk
  split at hk
  · obtain ⟨h1, h2, h3⟩ := hk
    exact ⟨_, h3, fun F H v u s r1 r2 Q q => .inr ⟨x, _, (r1.mono s).dp, (r2.mono s).dp, h1, h2, q _ F H (.refl s) (.bl _)⟩⟩
  · exact hk.elim) ha hb
theorem ew_niL (ha : Ew A C E ta Γ ma) (hb : Ew A C E tb Γ mb) : Ew A C E (tOp (rNiA K) ta tb) Γ (fun P X => ma (fun x => mb (fun y => niLW x y P) X) X) := ew_op (op := niLW) (fun x y k hk => by
  unfold niLW at hk
  split at hk
  · obtain ⟨h1, h2, h3⟩ := hk
    exact ⟨_, h3, fun F H v u s r1 r2 Q q => .inr ⟨x, _, (r1.mono s).dp, (r2.mono s).dp, h1, h2, q _ F H (.refl s) (.bl _)⟩⟩
  · exact hk.elim) ha hb
theorem nw_list (h : Sw A C E ta Γ l) : Nw A C E (tCB (rListA K) (tCons ta tNil)) Γ l :=
  fun P X hm B F H σ wd g Q q xo => h _ X hm B F H σ wd g _ (fun v F1 H1 xs g1 w1 h1 ⟨p, vs, e, _, hl, r⟩ => by
    subst e
    exact ⟨p, vs, rfl, hl.imp SqL.of SqT.of, fun b hb => q _ F1 _ _ (g1.trans (.newM g1.fh hb)) (newM_wd w1 hb) h1 ⟨b, vs, rfl, g1.fresh hb, g1.fh.none hb, fun z => w1.sH b z hb, upd_same, r⟩⟩) xo
theorem ew_tupleL (h : Lw A C E ta Γ l) : Ew A C E (tThen ta (kTup K)) Γ (fun P X => l (fun xs => tupW xs P) X) :=
  fun P X hm B F H σ wd g Q q xo => h _ X hm B F H σ wd g _ (fun v F1 H1 xs g1 w1 h1 ⟨p, vs, e, _, hl, r⟩ => by
    subst e
    refine .inl ⟨p, vs, rfl, SqL.of hl, fun t ht => ?_⟩
    have gn : Grow [] F1 H1 (upd F1 t (.tup vs)) (upd H1 t (.tup vs)) := .new g1.fh ht
    exact q _ _ _ _ (g1.trans gn.weak) (w1.grow gn) h1 (.tup upd_same (r.mono (Sub.new (g1.fh.none ht))))) xo
theorem ew_tupleD (h : Ew A C E ta Γ ma) : Ew A C E (tThen ta (kTup K)) Γ (fun P X => ma (fun d => seqW d fun xs => tupW xs P) X) :=
  fun P X hm B F H σ wd g Q q xo => h _ X hm B F H σ wd g _ (fun v F1 H1 d g1 w1 h1 r => by
    cases r with
    | lst f ra =>
      refine .inl ⟨_, _, rfl, SqL.of (w1.sub _ _ f), fun t ht => ?_⟩
      rename_i a vs xs
      have gn : Grow [] F1 H1 (upd F1 t (.tup vs)) (upd H1 t (.tup vs)) := .new g1.fh ht
      exact q _ _ _ _ (g1.trans gn.weak) (w1.grow gn) h1 (.tup upd_same (ra.mono (Sub.new (g1.fh.none ht))))
    | tup f ra => exact .inr ⟨_, _, rfl, SqT.of (w1.sub _ _ f), q _ F1 H1 _ g1 w1 h1 (.tup f ra)⟩
    | _ => exact h1.elim) xo
theorem ew_un {r : List V → Hp → VK → Prop} {f : PyData → DP → Prop} (hr : ∀ x k, f x k → ∃ d, k d ∧ ∀ (F H : Hp) (v : V), Sub F H → Rp F v x → ∀ Q : VK, (∀ z, Rp F z d → Q z H) → r [v] H Q) (h : Ew A C E ta Γ ma) :
    Ew A C E (tCB r (tCons ta tNil)) Γ (fun P X => ma (fun x => f x P) X) :=
  fun P X hm B F H σ wd g Q q xo => h _ X hm B F H σ wd g _ (fun v F1 H1 x g1 w1 h1 r1 => by
    obtain ⟨d, pd, k⟩ := hr x P h1
    exact k F1 H1 v g1.fh r1 Q fun z rz => q z F1 H1 d g1 w1 pd rz) xo
theorem ew_cint (h : Ew A C E ta Γ ma) : Ew A C E (tCB rIntA (tCons ta tNil)) Γ (fun P X => ma (fun x => cintW x P) X) := ew_un (fun x k hk => by
  unfold cintW at hk
  split at hk
  · exact ⟨_, hk, fun F H v s r1 Q q => .inl ⟨_, by rw [r1.int_inv], q _ (.int _)⟩⟩
  · exact ⟨_, hk, fun F H v s r1 Q q => .inr ⟨_, by rw [r1.bl_inv], q _ (.int _)⟩⟩
  · exact hk.elim) h
theorem ew_abs (h : Ew A C E ta Γ ma) : Ew A C E (tCB rAbsA (tCons ta tNil)) Γ (fun P X => ma (fun x => absW x P) X) := ew_un (fun x k hk => by
  unfold absW at hk
  split at hk
  · exact ⟨_, hk, fun F H v s r1 Q q => ⟨_, by rw [r1.int_inv], q _ (.int _)⟩⟩
  · exact hk.elim) h
theorem ew_cstr (h : Ew A C E ta Γ ma) : Ew A C E (tCB rStrI (tCons ta tNil)) Γ (fun P X => ma (fun x => strW x P) X) := ew_un (fun x k hk => by
  unfold strW at hk
  split at hk
  · exact ⟨_, hk.2, fun F H v s r1 Q q => ⟨_, by rw [r1.int_inv], hk.1, q _ (.str _)⟩⟩
  · exact hk.elim) h
theorem ew_min2 (ha : Ew A C E ta Γ ma) (hb : Ew A C E tb Γ mb) : Ew A C E (tCB rMin2 (tCons ta (tCons tb tNil))) Γ (fun P X => ma (fun x => mb (fun y => min2W x y P) X) X) :=
  fun P X hm B F H σ wd g Q q xo => ha _ X hm B F H σ wd g _ (fun v F1 H1 x g1 w1 h1 r1 => hb _ X h1 B F1 H1 σ w1 (g.grow g1) _ (fun u F2 H2 y g2 w2 h2 r2 => by
    unfold min2W opJ at h2
    split at h2
    · rw [r1.int_inv, r2.int_inv]; exact ⟨_, _, rfl, q _ F2 H2 _ (g1.trans g2) w2 h2 (.int _)⟩
    · exact h2.elim) (xo.go g1)) xo
theorem ew_max2 (ha : Ew A C E ta Γ ma) (hb : Ew A C E tb Γ mb) : Ew A C E (tCB rMax2 (tCons ta (tCons tb tNil))) Γ (fun P X => ma (fun x => mb (fun y => max2W x y P) X) X) :=
  fun P X hm B F H σ wd g Q q xo => ha _ X hm B F H σ wd g _ (fun v F1 H1 x g1 w1 h1 r1 => hb _ X h1 B F1 H1 σ w1 (g.grow g1) _ (fun u F2 H2 y g2 w2 h2 r2 => by
    unfold max2W opJ at h2
    split at h2
    · rw [r1.int_inv, r2.int_inv]; exact ⟨_, _, rfl, q _ F2 H2 _ (g1.trans g2) w2 h2 (.int _)⟩
    · exact h2.elim) (xo.go g1)) xo
theorem ew_lcb {r : List V → Hp → VK → Prop} {f : List PyData → DP → Prop} (hr : ∀ xs k, f xs k → ∃ d, k d ∧ ∀ (F H : Hp) (p : Addr) (vs : List V), H p = some (.lst vs) → RpAll F vs xs → ∀ Q : VK, (∀ z, Rp F z d → Q z H) → r [.ref p] H Q) (h : Lw A C E ta Γ l) :
    Ew A C E (tCB r (tCons ta tNil)) Γ (fun P X => l (fun xs => f xs P) X) :=
  fun P X hm B F H σ wd g Q q xo => h _ X hm B F H σ wd g _ (fun v F1 H1 xs g1 w1 h1 ⟨p, vs, e, _, hl, ra⟩ => by
    subst e
    obtain ⟨d, pd, k⟩ := hr xs P h1
    exact k F1 H1 p vs hl ra Q fun z rz => q z F1 H1 d g1 w1 pd rz) xo
theorem ew_all (h : Lw A C E ta Γ l) : Ew A C E (tCB (rAll K) (tCons ta tNil)) Γ (fun P X => l (fun xs => allW xs P) X) :=
  ew_lcb (fun xs k ⟨bs, e, hk⟩ => ⟨_, hk, fun F H p vs hl ra Q q => by subst e; exact ⟨p, bs, rfl, SqL.of (by rw [hl, ra.bls]), q _ (.bl _)⟩⟩) h
theorem ew_any (h : Lw A C E ta Γ l) : Ew A C E (tCB (rAny K) (tCons ta tNil)) Γ (fun P X => l (fun xs => anyW xs P) X) :=
  ew_lcb (fun xs k ⟨bs, e, hk⟩ => ⟨_, hk, fun F H p vs hl ra Q q => by subst e; exact ⟨p, bs, rfl, SqL.of (by rw [hl, ra.bls]), q _ (.bl _)⟩⟩) h
theorem ew_sum (h : Lw A C E ta Γ l) : Ew A C E (tCB (rSum K) (tCons ta tNil)) Γ (fun P X => l (fun xs => sumW xs P) X) :=
  ew_lcb (fun xs k ⟨ns, e, hk⟩ => ⟨_, hk, fun F H p vs hl ra Q q => by subst e; exact ⟨p, ns, rfl, SqL.of (by rw [hl, ra.ints]), q _ (.int _)⟩⟩) h
theorem ew_minL (h : Lw A C E ta Γ l) : Ew A C E (tCB (rMin K) (tCons ta tNil)) Γ (fun P X => l (fun xs => minW xs P) X) :=
  ew_lcb (fun xs k ⟨ns, m, e, h1, h2, hk⟩ => ⟨_, hk, fun F H p vs hl ra Q q => by
    subst e
    refine ⟨p, ns, rfl, SqL.of (by rw [hl, ra.ints]), List.length_pos_of_mem h1, fun k hk hl => ?_⟩
    have e : k = m := Int.le_antisymm (hl m h1) (h2 k hk)
    subst e
    exact q _ (.int _)⟩) h
theorem ew_maxL (h : Lw A C E ta Γ l) : Ew A C E (tCB (rMax K) (tCons ta tNil)) Γ (fun P X => l (fun xs => maxW xs P) X) :=
  ew_lcb (fun xs k ⟨ns, m, e, h1, h2, hk⟩ => ⟨_, hk, fun F H p vs hl ra Q q => by
    subst e
    refine ⟨p, ns, rfl, SqL.of (by rw [hl, ra.ints]), List.length_pos_of_mem h1, fun k hk hl => ?_⟩
    have e : k = m := Int.le_antisymm (h2 k hk) (hl m h1)
    subst e
    exact q _ (.int _)⟩) h
/-! isinstance -/
theorem ew_isd {r : TE → TE} {f : PyData → DP → Prop} {b : PyData → Bool} (hf : ∀ x k, f x k → k (.bool (b x)))
    (hr : ∀ (Γ : List Sl) (i : Nat) (d : PyData), Γ[i]? = some (.dat d) → EvD (r (tVar i)) Γ (.bool (b d))) (hc : ∀ te σ H Q, te σ H (fun v H1 => r (tVar 0) [some v] H1 Q) → r te σ H Q) (h : Ew A C E ta Γ ma) : Ew A C E (r ta) Γ (fun P X => ma (fun x => f x P) X) :=
  fun P X hm B F H σ wd g Q q xo => hc _ _ _ _ (h _ X hm B F H σ wd g _ (fun v F1 H1 x g1 w1 h1 r1 => by
    refine hr [.dat x] 0 x rfl pc0 H1 F1 H1 [some v] (wd0 w1.sub) ⟨rfl, fun j s e => ?_, fun j k ds es p e => ?_⟩ Q fun z F2 H2 g2 r2 => q z F2 H2 _ (g1.trans g2.weak) (w1.grow g2) (hf x P h1) r2
    · match j, e with
      | 0, e => cases e; exact ⟨v, rfl, r1⟩
      | n + 1, e => cases e
    · match j, e with
      | 0, e => cases e
      | n + 1, e => cases e) xo)
theorem tcb_one {r : List V → Hp → VK → Prop} {x : V} {te : TE} {σ : L2.St} {H : Hp} {Q : VK} (h : te σ H (fun v H1 => tCB r (tCons (tVar 0) (tCons (tC x) tNil)) [some v] H1 Q)) : tCB r (tCons te (tCons (tC x) tNil)) σ H Q := by
  have e : (fun v H1 => tCB r (tCons (tVar 0) (tCons (tC x) tNil)) [some v] H1 Q) = fun v H1 => r [v, x] H1 Q := by
    funext v H1
    apply propext
    constructor
    · rintro ⟨u, e, q⟩
      cases e; exact q
    · exact fun q => ⟨v, rfl, q⟩
  rw [e] at h
  exact h
theorem ew_isInt (h : Ew A C E ta Γ ma) : Ew A C E (tCB (rIsi K) (tCons ta (tCons (tC (.ty "int")) tNil))) Γ (fun P X => ma (fun x => isIntW x P) X) :=
  ew_isd (r := fun te => tCB (rIsi K) (tCons te (tCons (tC (.ty "int")) tNil))) (fun x k hk => hk) (fun Γ i d h => ev_isInt (ev_var h)) (fun te σ H Q h => tcb_one h) h
theorem ew_isBl (h : Ew A C E ta Γ ma) : Ew A C E (tCB (rIsi K) (tCons ta (tCons (tC (.ty "bool")) tNil))) Γ (fun P X => ma (fun x => isBlW x P) X) :=
  ew_isd (r := fun te => tCB (rIsi K) (tCons te (tCons (tC (.ty "bool")) tNil))) (fun x k hk => hk) (fun Γ i d h => ev_isBl (ev_var h)) (fun te σ H Q h => tcb_one h) h
theorem ew_isStr (h : Ew A C E ta Γ ma) : Ew A C E (tCB (rIsi K) (tCons ta (tCons (tC (.ty "str")) tNil))) Γ (fun P X => ma (fun x => isStrW x P) X) :=
  ew_isd (r := fun te => tCB (rIsi K) (tCons te (tCons (tC (.ty "str")) tNil))) (fun x k hk => hk) (fun Γ i d h => ev_isStr (ev_var h)) (fun te σ H Q h => tcb_one h) h
theorem ew_isLst (h : Ew A C E ta Γ ma) : Ew A C E (tCB (rIsi K) (tCons ta (tCons (tC (.ty "list")) tNil))) Γ (fun P X => ma (fun x => isLstW x P) X) :=
  ew_isd (r := fun te => tCB (rIsi K) (tCons te (tCons (tC (.ty "list")) tNil))) (fun x k hk => hk) (fun Γ i d h => ev_isLst (ev_var h)) (fun te σ H Q h => tcb_one h) h
theorem ew_isTup (h : Ew A C E ta Γ ma) : Ew A C E (tCB (rIsi K) (tCons ta (tCons (tC (.ty "tuple")) tNil))) Γ (fun P X => ma (fun x => isTupW x P) X) :=
  ew_isd (r := fun te => tCB (rIsi K) (tCons te (tCons (tC (.ty "tuple")) tNil))) (fun x k hk => hk) (fun Γ i d h => ev_isTup (ev_var h)) (fun te σ H Q h => tcb_one h) h
theorem ew_isLT (h : Ew A C E ta Γ ma) : Ew A C E (tCB (rIsiT K) (tCons ta (tCons (tTup (tCons (tC (.ty "list")) (tCons (tC (.ty "tuple")) tNil))) tNil))) Γ (fun P X => ma (fun x => isLTW x P) X) :=
  ew_isd (r := fun te => tCB (rIsiT K) (tCons te (tCons (tTup (tCons (tC (.ty "list")) (tCons (tC (.ty "tuple")) tNil))) tNil))) (fun x k hk => hk) (fun Γ i d h => ev_isLT (ev_var h)) (fun te σ H Q h => by
    have e : (fun v H1 => tCB (rIsiT K) (tCons (tVar 0) (tCons (tTup (tCons (tC (.ty "list")) (tCons (tC (.ty "tuple")) tNil))) tNil)) [some v] H1 Q) = fun v H1 => tCons (tTup (tCons (tC (.ty "list")) (tCons (tC (.ty "tuple")) tNil))) tNil σ H1 (fun vs H2 => rIsiT K (v :: vs) H2 Q) := by
      funext v H1
      apply propext
      constructor
      · rintro ⟨u, e, q⟩
        cases e; exact q
      · exact fun q => ⟨v, rfl, q⟩
    rw [e] at h
    exact h) h
/-! tests -/
theorem tw_B (h : Ew A C E te Γ m) : Tw A C E (tB te) Γ (fun P X => m (fun x => boolW x P) X) :=
  fun P X hm B F H σ wd g Q q xo => h _ X hm B F H σ wd g _ (fun v F1 H1 x g1 w1 h1 r1 => by
    unfold boolW at h1
    split at h1
    · exact ⟨_, Rp.bl_inv r1, q _ F1 H1 g1 w1 h1⟩
    · exact h1.elim) xo
theorem tw_test (h : Ew A C E te Γ m) : Tw A C E (tTest te) Γ (fun P X => m (fun x => boolW x P) X) :=
  fun P X hm B F H σ wd g Q q xo => h _ X hm B F H σ wd g _ (fun v F1 H1 x g1 w1 h1 r1 => by
    unfold boolW at h1
    split at h1
    · exact ⟨_, Rp.bl_inv r1, q _ F1 H1 g1 w1 h1⟩
    · exact h1.elim) xo
theorem tw_yes : Tw A C E tYes Γ (fun P _ => P true) := fun P X hm B F H σ wd g Q q xo => q true F H (.refl wd.sub) wd hm
theorem tw_not (h : Tw A C E tt Γ mt) : Tw A C E (tNot tt) Γ (fun P X => mt (fun b => P (!b)) X) := fun P X hm B F H σ wd g Q q xo => h _ X hm B F H σ wd g _ (fun b F1 H1 g1 w1 h1 => q _ F1 H1 g1 w1 h1) xo
theorem tw_and (h : Tw A C E tt Γ mt) (h2 : Tw A C E tu Γ mu) : Tw A C E (tAnd tt tu) Γ (fun P X => andW (fun k => mt k X) (fun k => mu k X) P) :=
  fun P X hm B F H σ wd g Q q xo => h _ X hm B F H σ wd g _ (fun b F1 H1 g1 w1 h1 => by
    cases b with
    | true =>
      show tu σ H1 Q
      exact h2 _ X h1 B F1 H1 σ w1 (g.grow g1) Q (fun b F2 H2 g2 w2 p => q b F2 H2 (g1.trans g2) w2 p) (xo.go g1)
    | false => exact q _ F1 H1 g1 w1 h1) xo
theorem tw_or (h : Tw A C E tt Γ mt) (h2 : Tw A C E tu Γ mu) : Tw A C E (tOr tt tu) Γ (fun P X => orW (fun k => mt k X) (fun k => mu k X) P) :=
  fun P X hm B F H σ wd g Q q xo => h _ X hm B F H σ wd g _ (fun b F1 H1 g1 w1 h1 => by
    cases b with
    | true => exact q _ F1 H1 g1 w1 h1
    | false =>
      show tu σ H1 Q
      exact h2 _ X h1 B F1 H1 σ w1 (g.grow g1) Q (fun b F2 H2 g2 w2 p => q b F2 H2 (g1.trans g2) w2 p) (xo.go g1)) xo
theorem ew_andV (ha : Ew A C E ta Γ ma) (hb : Ew A C E tb Γ mb) : Ew A C E (tAndV ta tb) Γ (fun P X => andVW (fun k => ma k X) (fun k => mb k X) P) :=
  fun P X hm B F H σ wd g Q q xo => ha _ X hm B F H σ wd g _ (fun v F1 H1 x g1 w1 h1 r1 => by
    unfold boolW at h1
    split at h1
    · rename_i b
      refine ⟨b, r1.bl_inv, ?_⟩
      cases b with
      | true => exact hb _ X h1 B F1 H1 σ w1 (g.grow g1) Q (fun u F2 H2 y g2 w2 p r2 => q u F2 H2 y (g1.trans g2) w2 p r2) (xo.go g1)
      | false => exact q _ F1 H1 _ g1 w1 h1 (.bl _)
    · exact h1.elim) xo
theorem ew_orV (ha : Ew A C E ta Γ ma) (hb : Ew A C E tb Γ mb) : Ew A C E (tOrV ta tb) Γ (fun P X => orVW (fun k => ma k X) (fun k => mb k X) P) :=
  fun P X hm B F H σ wd g Q q xo => ha _ X hm B F H σ wd g _ (fun v F1 H1 x g1 w1 h1 r1 => by
    unfold boolW at h1
    split at h1
    · rename_i b
      refine ⟨b, r1.bl_inv, ?_⟩
      cases b with
      | true => exact q _ F1 H1 _ g1 w1 h1 (.bl _)
      | false => exact hb _ X h1 B F1 H1 σ w1 (g.grow g1) Q (fun u F2 H2 y g2 w2 p r2 => q u F2 H2 y (g1.trans g2) w2 p r2) (xo.go g1)
    · exact h1.elim) xo
theorem ew_notV (ha : Ew A C E ta Γ ma) : Ew A C E (tNotV ta) Γ (fun P X => ma (fun x => notW x P) X) :=
  fun P X hm B F H σ wd g Q q xo => ha _ X hm B F H σ wd g _ (fun v F1 H1 x g1 w1 h1 r1 => by
    unfold notW at h1
    split at h1
    · exact ⟨_, r1.bl_inv, q _ F1 H1 _ g1 w1 h1 (.bl _)⟩
    · exact h1.elim) xo
theorem ew_if (ht : Tw A C E tt Γ mt) (ha : Ew A C E ta Γ ma) (hb : Ew A C E tb Γ mb) : Ew A C E (tIf tt ta tb) Γ (fun P X => joinW (fun k => mt (fun b => iteW b (ma k X) (mb k X)) X) P) :=
  fun P X hm B F H σ wd g Q q xo => ht _ X hm B F H σ wd g _ (fun b F1 H1 g1 w1 h1 => by
    cases b with
    | true => exact ha _ X h1 B F1 H1 σ w1 (g.grow g1) Q (fun u F2 H2 y g2 w2 p r2 => q u F2 H2 y (g1.trans g2) w2 p r2) (xo.go g1)
    | false => exact hb _ X h1 B F1 H1 σ w1 (g.grow g1) Q (fun u F2 H2 y g2 w2 p r2 => q u F2 H2 y (g1.trans g2) w2 p r2) (xo.go g1)) xo
theorem ew_chain {r r' : R2} {o o' : OpW} (hr : RVw r o) (hr' : RVw r' o') (ha : Ew A C E ta Γ ma) (hb : Ew A C E tb Γ mb) (hc : Ew A C E tc Γ mc) :
    Ew A C E (tChain r r' ta tb tc) Γ (fun P X => ma (fun x => mb (fun y => chainW o o' x y (fun k => mc k X) P) X) X) :=
  fun P X hm B F H σ wd g Q q xo => ha _ X hm B F H σ wd g _ (fun v F1 H1 x g1 w1 h1 r1 => hb _ X h1 B F1 H1 σ w1 (g.grow g1) _ (fun u F2 H2 y g2 w2 h2 r2 => by
    obtain ⟨d, pd, rv⟩ := hr x y _ h2
    refine rv F2 H2 v u g2.fh (Rp.mono g2.ff r1) r2 _ fun z F3 H3 g3 r3 => ?_
    unfold boolW at pd
    split at pd
    · rename_i b
      refine ⟨b, r3.bl_inv, ?_⟩
      have w3 := w2.grow g3
      cases b with
      | true =>
        refine hc _ X pd B F3 H3 σ w3 ((((g.grow g1).grow g2)).grow g3.weak) _ (fun t F4 H4 z4 g4 w4 h4 r4 => ?_) (((xo.go g1).go g2).go g3.weak)
        obtain ⟨d5, pd5, rv5⟩ := hr' y z4 _ h4
        exact rv5 F4 H4 u t g4.fh (Rp.mono g4.ff (Rp.mono g3.ff r2)) r4 Q fun z5 F5 H5 g5 r5 => q z5 F5 H5 d5 ((((g1.trans g2).trans g3.weak).trans g4).trans g5.weak) (w4.grow g5) pd5 r5
      | false => exact q _ F3 H3 _ ((g1.trans g2).trans g3.weak) w3 pd (.bl _)
    · exact pd.elim) (xo.go g1)) xo
/-! slices -/
theorem ow_none : Ow A C E tNoPart Γ (fun P _ => P none) := fun P X hm B F H σ wd g Q q xo => q none F H (.refl wd.sub) wd hm
theorem ow_some (h : Ew A C E te Γ m) : Ow A C E (tPart te) Γ (fun P X => m (fun x => intW x fun i => P (some i)) X) := fun P X hm B F H σ wd g Q q xo => h _ X hm B F H σ wd g _ (fun v F1 H1 x g1 w1 h1 r1 => by
  unfold intW at h1
  split at h1
  · exact ⟨_, r1.int_inv, q _ F1 H1 g1 w1 h1⟩
  · exact h1.elim) xo
/-- of data: a tuple's is a tuple, a list's a new list -/
@[reducible] def slDW (d : PyData) (lo hi : Option Int) (k : DP) : Prop := match d with | .tuple xs => k (.tuple (cutD xs lo hi)) | .list xs => k (.list (cutD xs lo hi)) | _ => False
theorem ew_sl {tl th : TO} {ml mh : MW (Option Int)} (h : Ew A C E te Γ m) (hl : Ow A C E tl Γ ml) (hh : Ow A C E th Γ mh) : Ew A C E (tSl (rSlB K) te tl th) Γ (fun P X => m (fun d => ml (fun lo => mh (fun hi => slDW d lo hi P) X) X) X) :=
  fun P X hm B F H σ wd g Q q xo => h _ X hm B F H σ wd g _ (fun v F1 H1 d g1 w1 h1 r1 => hl _ X h1 B F1 H1 σ w1 (g.grow g1) _ (fun lo F2 H2 g2 w2 h2 => hh _ X h2 B F2 H2 σ w2 ((g.grow g1).grow g2) _ (fun hi F3 H3 g3 w3 h3 => by
    have r3 := (Rp.mono g2.ff r1).mono g3.ff
    have gg := (g1.trans g2).trans g3
    cases r3 with
    | tup f ra =>
      rename_i a0 us ds0
      refine .inr ⟨_, _, rfl, SqT.of (w3.sub _ _ f), fun hw => ?_, fun _ p hp => ?_⟩
      · rw [ra.length] at hw
        exact q _ F3 H3 _ gg w3 h3 (by rw [cut_whole hw]; exact .tup f ra)
      · have gn : Grow [] F3 H3 (upd F3 p (.tup (cutV us lo hi))) (upd H3 p (.tup (cutV us lo hi))) := .new w3.sub hp
        exact q _ _ _ _ (gg.trans gn.weak) (w3.grow gn) h3 (.tup upd_same ((ra.cut lo hi).mono (Sub.new (w3.sub.none hp))))
    | lst f ra =>
      rename_i a0 us ds0
      refine .inl ⟨_, _, rfl, SqL.of (w3.sub _ _ f), fun p hp => ?_⟩
      have gn : Grow [] F3 H3 (upd F3 p (.lst (cutV us lo hi))) (upd H3 p (.lst (cutV us lo hi))) := .new w3.sub hp
      exact q _ _ _ _ (gg.trans gn.weak) (w3.grow gn) h3 (.lst upd_same ((ra.cut lo hi).mono (Sub.new (w3.sub.none hp))))
    | _ => exact h3.elim) ((xo.go g1).go g2)) (xo.go g1)) xo
theorem nw_sl {tl th : TO} {ml mh : MW (Option Int)} (h : Lw A C E te Γ l) (hl : Ow A C E tl Γ ml) (hh : Ow A C E th Γ mh) : Nw A C E (tSl (rSlB K) te tl th) Γ (fun P X => l (fun xs => ml (fun lo => mh (fun hi => cutW xs lo hi P) X) X) X) :=
  fun P X hm B F H σ wd g Q q xo => h _ X hm B F H σ wd g _ (fun v F1 H1 d g1 w1 h1 ⟨p, vs, e, n, hl', ra⟩ => hl _ X h1 B F1 H1 σ w1 (g.grow g1) _ (fun lo F2 H2 g2 w2 h2 => hh _ X h2 B F2 H2 σ w2 ((g.grow g1).grow g2) _ (fun hi F3 H3 g3 w3 h3 => by
    subst e
    have gg := (g1.trans g2).trans g3
    refine .inl ⟨p, vs, rfl, SqL.of (g3.hh _ _ n (g2.hh _ _ n hl')), fun q' hq => ?_⟩
    exact q _ F3 _ _ (gg.trans (.newM w3.sub hq)) (newM_wd w3 hq) h3 ⟨q', _, rfl, gg.fresh hq, w3.sub.none hq, fun z => w3.sH q' z hq, upd_same, ((ra.mono g2.ff).mono g3.ff).cut lo hi⟩) ((xo.go g1).go g2)) (xo.go g1)) xo
/-- lists joined -/
theorem nw_cat (ha : Lw A C E ta Γ la) (hb : Lw A C E tb Γ lb) : Nw A C E (tOp (rAddA K) ta tb) Γ (fun P X => la (fun xs => lb (fun ys => catW xs ys P) X) X) :=
  fun P X hm B F H σ wd g Q q xo => ha _ X hm B F H σ wd g _ (fun v F1 H1 xs g1 w1 h1 ⟨p, vs, e, n, hl, ra⟩ => hb _ X h1 B F1 H1 σ w1 (g.grow g1) _ (fun u F2 H2 ys g2 w2 h2 ⟨p2, us, e2, n2, hl2, ra2⟩ => by
    subst e e2
    refine .inr (.inl ⟨p, p2, vs, us, rfl, rfl, g2.hh _ _ n hl, hl2, by rw [ra.length, ra2.length]; exact size_ok h2.1, fun b hb => ?_⟩)
    have gg := g1.trans g2
    exact q _ F2 _ _ (gg.trans (.newM w2.sub hb)) (newM_wd w2 hb) h2.2 ⟨b, _, rfl, gg.fresh hb, w2.sub.none hb, fun z => w2.sH b z hb, upd_same, (ra.mono g2.ff).append ra2⟩) (xo.go g1)) xo
end
end Eh

namespace Eh
open PySem PySem.Spec PyProof.Rows L2
variable {A : Str → Addr} {C : Pc} {E : L2.St → XK} {Γ Γ' : List Sl} {K : PySem.W.Frag} {w : World}
section
variable {te ta tb tc : TE} {tt tu : TT} {ts : TA} {m ma mb mc : WD} {l la lb : WL} {mt mu : WT} {d : PyData} {ds : List PyData} {i : Nat}
/-! ### what is walked -/
theorem fw_seq (h : Ew A C E te Γ m) : Fw A C E (iSeq K te) Γ (fun P X => m (fun d => seqW d P) X) := fun P X hm B F H σ wd g R r xo => h _ X hm B F H σ wd g _ (fun v F1 H1 d g1 w1 h1 rv => by
  cases rv with
  | lst f ra => exact ⟨_, rfl, .inl ⟨⟨_, SqL.of (w1.sub _ _ f)⟩, r _ F1 H1 _ g1 w1 h1 fun F2 H2 s1 s2 => wk_list s2 (s2 _ _ (s1 _ _ f)) (ra.mono s1)⟩⟩
  | tup f ra => exact ⟨_, rfl, .inr ⟨⟨_, SqT.of (w1.sub _ _ f)⟩, r _ F1 H1 _ g1 w1 h1 fun F2 H2 s1 s2 => wk_tup s2 (s2 _ _ (s1 _ _ f)) (ra.mono s1)⟩⟩
  | _ => exact h1.elim) xo
theorem fw_seqN (h : Nw A C E te Γ l) : Fw A C E (iSeq K te) Γ l := fw_seq h.fz
theorem iw_seq (h : Sw A C E te Γ l) : Iw A C E (iSeq K te) Γ l := fun P X hm B F H σ wd g R r xo => h _ X hm B F H σ wd g _ (fun v F1 H1 ds g1 w1 h1 ⟨p, vs, e, n, hl, ra⟩ => by
  subst e
  refine ⟨p, rfl, ?_⟩
  rcases hl with hl | hl
  · exact .inl ⟨⟨vs, SqL.of hl⟩, r _ F1 H1 ds g1 w1 h1 fun F2 H2 g2 => wk_list g2.fh (g2.hh _ _ n hl) (ra.mono g2.ff)⟩
  · exact .inr ⟨⟨vs, SqT.of hl⟩, r _ F1 H1 ds g1 w1 h1 fun F2 H2 g2 => wk_tup g2.fh (g2.hh _ _ n hl) (ra.mono g2.ff)⟩) xo
/-- in an except suite -/
theorem iw_list (h : Lw A C E te Γ l) : Iw A C E (iList K te) Γ l := fun P X hm B F H σ wd g R r xo => h _ X hm B F H σ wd g _ (fun v F1 H1 ds g1 w1 h1 ⟨p, vs, e, n, hl, ra⟩ => by
  subst e
  exact ⟨p, rfl, ⟨vs, SqL.of hl⟩, r _ F1 H1 ds g1 w1 h1 fun F2 H2 g2 => wk_list g2.fh (g2.hh _ _ n hl) (ra.mono g2.ff)⟩) xo
theorem wk_rng {F F2 H2 : Hp} (i : Int) (n : Nat) (s2 : Sub F2 H2) : (∀ k d, ((List.range n).map fun k : Nat => PyData.int (i + k))[k]? = some d → (Itr i n).go k H2 ∧ ∀ x H', (Itr i n).yld k H2 x H' → ∃ F', Grow [] F2 H2 F' H' ∧ Rp F' x d) ∧ (Itr i n).stop ((List.range n).map fun k : Nat => PyData.int (i + k)).length H2 := by
  refine ⟨fun k d e => ?_, by show n ≤ _; simp⟩
  rw [List.getElem?_map] at e
  by_cases hi : k < n
  · rw [List.getElem?_range hi] at e
    cases e
    exact ⟨hi, fun x H' ⟨e1, e2⟩ => by subst e1 e2; exact ⟨F2, .refl s2, .int _⟩⟩
  · rw [List.getElem?_eq_none (by simpa using hi)] at e; cases e
theorem fw_rng1 (h : Ew A C E te Γ m) : Fw A C E (iRng1 (tCons te tNil)) Γ (fun P X => m (fun x => rngW x P) X) := fun P X hm B F H σ wd g R r xo => h _ X hm B F H σ wd g _ (fun v F1 H1 x g1 w1 h1 r1 => by
  unfold rngW at h1
  split at h1
  · rename_i n
    obtain ⟨h2, h3, h4⟩ := h1
    rw [r1.int_inv]
    have e : rgI n = (List.range n.toNat).map fun k : Nat => PyData.int ((0 : Int) + k) := List.map_congr_left fun k _ => by rw [Int.zero_add]
    rw [e] at h4
    exact ⟨n, rfl, by omega, by omega, r _ F1 H1 _ g1 w1 h4 fun F2 H2 s1 s2 => wk_rng (F := F2) 0 n.toNat s2⟩
  · exact h1.elim) xo
theorem fw_rng2 (ha : Ew A C E ta Γ ma) (hb : Ew A C E tb Γ mb) : Fw A C E (iRng2 (tCons ta (tCons tb tNil))) Γ (fun P X => ma (fun x => mb (fun y => rng2W x y P) X) X) := fun P X hm B F H σ wd g R r xo =>
  ha _ X hm B F H σ wd g _ (fun v F1 H1 x g1 w1 h1 r1 => hb _ X h1 B F1 H1 σ w1 (g.grow g1) _ (fun u F2 H2 y g2 w2 h2 r2 => by
    unfold rng2W at h2
    split at h2
    · rename_i i j
      obtain ⟨k1, k2, k3, k4, k5⟩ := h2
      rw [Rp.int_inv r1, Rp.int_inv r2]
      exact ⟨i, j, rfl, ⟨by omega, by omega, by omega, by omega⟩, r _ F2 H2 _ (g1.trans g2) w2 k5 fun F3 H3 s1 s2 => wk_rng (F := F3) i (j - i).toNat s2⟩
    · exact h2.elim) (xo.go g1)) xo
theorem fw_enum (h : Ew A C E te Γ m) : Fw A C E (iEnumA K (tCons te tNil)) Γ (fun P X => m (fun d => seqW d fun xs => letW (enumD xs) P) X) := fun P X hm B F H σ wd g R r xo => h _ X hm B F H σ wd g _ (fun v F1 H1 d g1 w1 h1 rv => by
  cases rv with
  | lst f ra => exact ⟨_, rfl, .inl ⟨⟨_, SqL.of (w1.sub _ _ f)⟩, r _ F1 H1 _ g1 w1 h1 fun F2 H2 s1 s2 => wk_enumL s2 (s2 _ _ (s1 _ _ f)) (ra.mono s1)⟩⟩
  | tup f ra => exact ⟨_, rfl, .inr ⟨⟨_, SqT.of (w1.sub _ _ f)⟩, r _ F1 H1 _ g1 w1 h1 fun F2 H2 s1 s2 => wk_enumT s2 (s2 _ _ (s1 _ _ f)) (ra.mono s1)⟩⟩
  | _ => exact h1.elim) xo
theorem iw_enum (h : Sw A C E te Γ l) : Iw A C E (iEnumA K (tCons te tNil)) Γ (fun P X => l (fun xs => letW (enumD xs) P) X) := fun P X hm B F H σ wd g R r xo => h _ X hm B F H σ wd g _ (fun v F1 H1 ds g1 w1 h1 ⟨p, vs, e, n, hl, ra⟩ => by
  subst e
  refine ⟨p, rfl, ?_⟩
  rcases hl with hl | hl
  · exact .inl ⟨⟨vs, SqL.of hl⟩, r _ F1 H1 _ g1 w1 h1 fun F2 H2 g2 => wk_enumL g2.fh (g2.hh _ _ n hl) (ra.mono g2.ff)⟩
  · exact .inr ⟨⟨vs, SqT.of hl⟩, r _ F1 H1 _ g1 w1 h1 fun F2 H2 g2 => wk_enumT g2.fh (g2.hh _ _ n hl) (ra.mono g2.ff)⟩) xo
/-! list(range(..)), tuple(range(..)) -/
theorem nw_rg (h : Ew A C E te Γ m) : Nw A C E (tLstRg (tRg1 te)) Γ (fun P X => m (fun x => rgLW x P) X) := fun P X hm B F H σ wd g Q q xo => h _ X hm B F H σ wd g _ (fun v F1 H1 x g1 w1 h1 r1 => by
  unfold rgLW at h1
  split at h1
  · rename_i n
    obtain ⟨h2, h3, h4⟩ := h1
    refine ⟨n, r1.int_inv, RgOk.of_le (by omega) (by omega) (by omega) (by omega), fun p hp => ?_⟩
    have e : rgI n = (List.range (n - 0).toNat).map fun k : Nat => PyData.int ((0 : Int) + k) := by rw [Int.sub_zero]; exact List.map_congr_left fun k _ => by rw [Int.zero_add]
    rw [e] at h4
    exact q _ F1 _ _ (g1.trans (.newM g1.fh hp)) (newM_wd w1 hp) h4 ⟨p, _, rfl, g1.fresh hp, g1.fh.none hp, fun z => w1.sH p z hp, upd_same, rpRg F1 0 n⟩
  · exact h1.elim) xo
theorem ew_tupRg (h : Ew A C E te Γ m) : Ew A C E (tTupRg (tRg1 te)) Γ (fun P X => m (fun x => rgLW x fun xs => tupW xs P) X) := fun P X hm B F H σ wd g Q q xo => h _ X hm B F H σ wd g _ (fun v F1 H1 x g1 w1 h1 r1 => by
  unfold rgLW at h1
  split at h1
  · rename_i n
    obtain ⟨h2, h3, h4⟩ := h1
    refine ⟨n, r1.int_inv, RgOk.of_le (by omega) (by omega) (by omega) (by omega), fun p hp => ?_⟩
    have e : rgI n = (List.range (n - 0).toNat).map fun k : Nat => PyData.int ((0 : Int) + k) := by rw [Int.sub_zero]; exact List.map_congr_left fun k _ => by rw [Int.zero_add]
    rw [e] at h4
    have gn : Grow [] F1 H1 (upd F1 p (.tup (rgV 0 n))) (upd H1 p (.tup (rgV 0 n))) := .new g1.fh hp
    exact q _ _ _ _ (g1.trans gn.weak) (w1.grow gn) h4 (.tup upd_same (rpRg _ 0 n))
  · exact h1.elim) xo
/-! ### comprehensions -/
theorem nw_lc {wi : TI} {g : TG} {vs : List Nat} {body : PyData → DP → Prop → Prop} (hi : Iw A C E wi Γ l)
    (hb : ∀ x Y N, body x Y N → ∃ Γx mt me, TgD g vs (wipeG Γ vs) x Γx ∧ Tw A C (fun _ => E0) tt Γx mt ∧ Ew A C (fun _ => E0) te Γx me ∧ mt (fun b => iteW b (me Y noX) N) noX) :
    Nw A C E (tLc wi g tt te vs) Γ (fun P X => l (fun items => lcW items body P) X) := fun P X hm B F H σ wd gm Q q xo =>
  hi _ X hm B F H σ wd gm _ (fun J F1 H1 xs g1 w1 hP wk D hD => by
    obtain ⟨hz, hgo⟩ := hP
    have e1 := gm.grow g1
    have nS : D ∉ C.S := fun z => w1.sH D z hD
    have nox : ∀ F H, XOk A C F H E0 noX := fun _ _ _ _ _ _ _ _ _ _ z => z.elim
    have mv : ∀ {F' H' : Hp} {acc : List V}, Grow C.S F1 H1 F' H' → F' D = none → H1 D = none → Grow C.S F1 H1 F' (upd H' D (.lst acc)) := fun {F' H' acc} gg f3 hD =>
      ⟨gg.ff, fun a o e => by
        have z : a ≠ D := fun z => by subst z; rw [f3] at e; cases e
        rw [upd_ne z]; exact gg.fh a o e, fun a o n e => by
        have z : a ≠ D := fun z => by subst z; rw [hD] at e; cases e
        rw [upd_ne z]; exact gg.hh a o n e, fun a e => upd_th (gg.th a e), gg.nw⟩
    refine ⟨fun i m H' => i + m = xs.length ∧ ∃ F' acc ds, Grow C.S F1 H1 F' H' ∧ Wd C F' H' ∧ F' D = none ∧ H' D = some (.lst acc) ∧ RpAll F' acc ds ∧ ds.length ≤ i ∧ lcGo body (xs.drop i) fun l => P (ds ++ l),
      ⟨xs.length, by omega, F1, [], [], .newM g1.fh hD, w1.grow (.newM g1.fh hD), g1.fh.none hD, upd_same, .nil, Nat.le_refl _, hgo⟩, fun i m H' ⟨hm, F', acc, ds, g2, w2, hF, hH, ra, hle, gen⟩ => ?_⟩
    by_cases hlt : i < xs.length
    · refine .inr ?_
      obtain ⟨x, hx⟩ : ∃ x, xs[i]? = some x := ⟨_, List.getElem?_eq_getElem hlt⟩
      have hdr : xs.drop i = x :: xs.drop (i + 1) := by
        rw [← (List.getElem?_eq_some_iff.mp hx).2, List.getElem_cons_drop]
      rw [hdr] at gen
      obtain ⟨Γx, mt, me, hg, ht, he, hmt⟩ := hb x _ _ gen
      obtain ⟨go, yl⟩ := (wk F' H' g2).1 i x hx
      refine ⟨go, fun H'' => ∃ F'' acc ds, Grow C.S F1 H1 F'' H'' ∧ Wd C F'' H'' ∧ F'' D = none ∧ H'' D = some (.lst acc) ∧ RpAll F'' acc ds ∧ ds.length ≤ i + 1 ∧ lcGo body (xs.drop (i + 1)) fun l => P (ds ++ l), fun H'' h'' => ⟨m - 1, by omega, by omega, h''⟩, fun v H'' y => ?_⟩
      obtain ⟨F'', g3, rv⟩ := yl v H'' y
      have g23 := g2.trans g3.weak
      have dF : F'' D = none := g3.nw D (by rw [hH]; exact fun z => nomatch z) hF
      refine hg C B F'' H'' (L2.wipe σ vs) v g3.fh ((e1.grow g23).wipe vs) rv _ fun σ' e2 hw => ⟨hw.trans (wipe_wipe σ vs), ?_⟩
      refine ht _ noX hmt B F'' H'' σ' (w2.grow g3) e2 _ (fun b F3 H3 g4 w4 pb => ?_) (nox _ _)
      have d3 : H3 D = some (.lst acc) := g4.hh _ _ nS (g3.sub _ _ hH)
      have f3 : F3 D = none := g4.nw D (by rw [g3.sub _ _ hH]; exact fun z => nomatch z) dF
      cases b with
      | true =>
        rw [if_pos rfl]
        refine he _ noX pb B F3 H3 σ' w4 (e2.grow g4) _ (fun u F4 H4 d g5 w5 pd ru => ?_) (nox _ _)
        have gg := (g23.trans g4).trans g5
        have f4 : F4 D = none := g5.nw D (by rw [d3]; exact fun z => nomatch z) f3
        refine ⟨acc, g5.hh _ _ nS d3, ?_, F4, acc ++ [u], ds ++ [d], mv gg f4 hD, w5.mut nS f4, f4, upd_same, ?_, ?_, ?_⟩
        · rw [ra.length]
          exact Nat.lt_of_le_of_lt (Nat.le_trans hle (Nat.le_trans (Nat.le_of_lt hlt) hz)) (by decide)
        · exact (((ra.mono g3.ff).mono g4.ff).mono g5.ff).append (.one ru)
        · rw [List.length_append]; exact Nat.succ_le_succ hle
        · have e : (fun l => P ((ds ++ [d]) ++ l)) = fun l => P (ds ++ (d :: l)) := funext fun l => by rw [List.append_assoc]; rfl
          rw [e]; exact pd
      | false =>
        rw [if_neg Bool.false_ne_true]
        exact ⟨F3, acc, ds, g23.trans g4, w4, f3, d3, (ra.mono g3.ff).mono g4.ff, Nat.le_succ_of_le hle, pb⟩
    · refine .inl ?_
      have ei : i = xs.length := by omega
      subst ei
      refine ⟨(wk F' H' g2).2, ?_⟩
      rw [List.drop_length] at gen
      have gen2 : P (ds ++ []) := gen
      rw [List.append_nil] at gen2
      exact q _ F' H' _ (g1.trans g2) w2 gen2 ⟨D, acc, rfl, g1.fresh' hD, hF, nS, hH, ra⟩) xo
theorem nw_lcM {wi : TI} {g : TG} {vs : List Nat} {body : PyData → DP → Prop} (hi : Iw A C E wi Γ l)
    (hb : ∀ x Y, body x Y → ∃ Γx me, TgD g vs (wipeG Γ vs) x Γx ∧ Ew A C (fun _ => E0) te Γx me ∧ me Y noX) :
    Nw A C E (tLc wi g tYes te vs) Γ (fun P X => l (fun items => lcMW items body P) X) :=
  nw_lc hi fun x Y N h => by
    obtain ⟨Γx, me, h1, h2, h3⟩ := hb x Y h
    exact ⟨Γx, _, me, h1, tw_yes, h2, h3⟩
/-! targets -/
theorem tg_un2 {vs : List Nat} {i j : Nat} {x : PyData} {k : PyData → PyData → Prop} (h1 : i ∈ vs) (h2 : j ∈ vs) (h : un2W x k) : ∃ a b, k a b ∧ TgD (gTup K 2 (gCons (gName i) (gCons (gName j) gNil))) vs Γ x ((Γ.set i (.dat a)).set j (.dat b)) := by
  unfold un2W at h
  split at h
  · exact ⟨_, _, h, tg_pair h1 h2⟩
  · exact h.elim
theorem tg_un3 {vs : List Nat} {i j n : Nat} {x : PyData} {k : PyData → PyData → PyData → Prop} (h1 : i ∈ vs) (h2 : j ∈ vs) (h3 : n ∈ vs) (h : un3W x k) :
    ∃ a b c, k a b c ∧ TgD (gTup K 3 (gCons (gName i) (gCons (gName j) (gCons (gName n) gNil)))) vs Γ x (((Γ.set i (.dat a)).set j (.dat b)).set n (.dat c)) := by
  unfold un3W at h
  split at h
  · refine ⟨_, _, _, h, fun C B F H σ z s g r Q q => ?_⟩
    obtain ⟨a, xs, rfl, f, ra⟩ := Rp.tup_inv r
    cases ra with
    | cons r1 ra =>
      cases ra with
      | cons r2 ra =>
        cases ra with
        | cons r3 ra =>
          cases ra
          refine ⟨a, _, rfl, SqT.of (s _ _ f), rfl, _, _, rfl, _, _, rfl, _, _, rfl, rfl, ?_⟩
          exact q _ (((g.dat r1).dat r2).dat r3) (by rw [wipe_set h3, wipe_set h2, wipe_set h1])
  · exact h.elim
/-! ### calls -/
/-- a def by its reading over data: no pool; a new list; with a pool -/
def spF (A : Str → Addr) (W : List PyData → WD) : Sp := fun vs H Q E => ∃ F ds P X, Sub F H ∧ RpAll F vs ds ∧ W ds P X ∧ (∀ d v F' H', P d → Grow [] F H F' H' → Rp F' v d → Q v H') ∧ XOk A pc0 F H E X
def spFN (A : Str → Addr) (W : List PyData → WL) : Sp := fun vs H Q E => ∃ F ds P X, Sub F H ∧ RpAll F vs ds ∧ W ds P X ∧
  (∀ es p us F' H', P es → Grow [] F H F' H' → H p = none → F' p = none → H' p = some (.lst us) → RpAll F' us es → Q (.ref p) H') ∧ XOk A pc0 F H E X
def spP (A : Str → Addr) (Fm : Pc → Prop) (W : List PyData → WD) : Sp := fun vs H Q E => ∃ C F ws ds P X, Fm C ∧ vs = .ref C.p :: ws ∧ Wd C F H ∧ RpAll F ws ds ∧ W ds P X ∧ (∀ d v F' H', P d → Grow C.S F H F' H' → Wd C F' H' → Rp F' v d → Q v H') ∧ XOk A C F H E X
def spPN (A : Str → Addr) (Fm : Pc → Prop) (W : List PyData → WL) : Sp := fun vs H Q E => ∃ C F ws ds P X, Fm C ∧ vs = .ref C.p :: ws ∧ Wd C F H ∧ RpAll F ws ds ∧ W ds P X ∧
  (∀ es p us F' H', P es → Grow C.S F H F' H' → Wd C F' H' → H p = none → F' p = none → p ∉ C.S → H' p = some (.lst us) → RpAll F' us es → Q (.ref p) H') ∧ XOk A C F H E X
theorem XOk.z {F H : Hp} {E : XK} {X : XP} (xo : XOk A C F H E X) (wd : Wd C F H) : XOk A pc0 F H E X := fun n f cv dd F' H' g _ => xo n f cv dd F' H' g.weak (wd.grow g)
section
variable {Wf : List PyData → WD} {Wn : List PyData → WL} {Fm : Pc → Prop} {e : XK}
theorem ew_call (h : Aw A C (fun _ => e) ts Γ l) : Ew A C (fun _ => e) (tCall (spF A Wf) [] e ts) Γ (fun P X => l (fun ds => Wf ds P X) X) := fun P X hm B F H σ wd g Q q xo =>
  h _ X hm B F H σ wd g _ (fun vs F1 H1 ds g1 w1 h1 r1 => ⟨F1, ds, P, X, w1.sub, by rw [List.append_nil]; exact r1, h1, fun d v F2 H2 pd g2 r2 => q v F2 H2 d (g1.trans g2.weak) (w1.grow g2) pd r2, (xo.go g1).z w1⟩) xo
theorem nw_call (h : Aw A C (fun _ => e) ts Γ l) : Nw A C (fun _ => e) (tCall (spFN A Wn) [] e ts) Γ (fun P X => l (fun ds => Wn ds P X) X) := fun P X hm B F H σ wd g Q q xo =>
  h _ X hm B F H σ wd g _ (fun vs F1 H1 ds g1 w1 h1 r1 => ⟨F1, ds, P, X, w1.sub, by rw [List.append_nil]; exact r1, h1, fun es p us F2 H2 pd g2 hn hf hl r2 =>
    q _ F2 H2 es (g1.trans g2.weak) (w1.grow g2) pd ⟨p, us, rfl, g1.fresh hn, hf, fun z => w1.sH p z hn, hl, r2⟩, (xo.go g1).z w1⟩) xo
theorem ew_callP (hF : Fm C) (hp : Γ[i]? = some .pool) (h : Aw A C (fun _ => e) ts Γ l) : Ew A C (fun _ => e) (tCall (spP A Fm Wf) [] e (tCons (tVar i) ts)) Γ (fun P X => l (fun ds => Wf ds P X) X) := fun P X hm B F H σ wd g Q q xo =>
  ⟨_, g.ok i _ hp, h _ X hm B F H σ wd g _ (fun vs F1 H1 ds g1 w1 h1 r1 => ⟨C, F1, vs, ds, P, X, hF, by rw [List.append_nil], w1, r1, h1, fun d v F2 H2 pd g2 w2 r2 => q v F2 H2 d (g1.trans g2) w2 pd r2, xo.go g1⟩) xo⟩
theorem nw_callP (hF : Fm C) (hp : Γ[i]? = some .pool) (h : Aw A C (fun _ => e) ts Γ l) : Nw A C (fun _ => e) (tCall (spPN A Fm Wn) [] e (tCons (tVar i) ts)) Γ (fun P X => l (fun ds => Wn ds P X) X) := fun P X hm B F H σ wd g Q q xo =>
  ⟨_, g.ok i _ hp, h _ X hm B F H σ wd g _ (fun vs F1 H1 ds g1 w1 h1 r1 => ⟨C, F1, vs, ds, P, X, hF, by rw [List.append_nil], w1, r1, h1, fun es p us F2 H2 pd g2 w2 hn hf hs hl r2 =>
    q _ F2 H2 es (g1.trans g2) w2 pd ⟨p, us, rfl, g1.fresh hn, hf, hs, hl, r2⟩, xo.go g1⟩) xo⟩
/-- in a try -/
theorem ew_callS (h : Aw A C E ts Γ l) : Ew A C E (tCallS (spF A Wf) E ts) Γ (fun P X => l (fun ds => Wf ds P X) X) := fun P X hm B F H σ wd g Q q xo =>
  h _ X hm B F H σ wd g _ (fun vs F1 H1 ds g1 w1 h1 r1 => ⟨F1, ds, P, X, w1.sub, r1, h1, fun d v F2 H2 pd g2 r2 => q v F2 H2 d (g1.trans g2.weak) (w1.grow g2) pd r2, (xo.go g1).z w1⟩) xo
end
end
/-! ### statements -/
inductive Wk : List Sl → List Sl → Prop
  | nil : Wk [] []
  | keep {s : Sl} {Γ Γ' : List Sl} : Wk Γ Γ' → Wk (s :: Γ) (s :: Γ')
  | drop {s : Sl} {Γ Γ' : List Sl} : Wk Γ Γ' → Wk (s :: Γ) (.no :: Γ')
theorem Wk.len {Γ Γ' : List Sl} (h : Wk Γ Γ') : Γ'.length = Γ.length := by
  induction h with
  | nil => rfl
  | keep _ ih => rw [List.length_cons, List.length_cons, ih]
  | drop _ ih => rw [List.length_cons, List.length_cons, ih]
theorem Wk.get {Γ Γ' : List Sl} (h : Wk Γ Γ') : ∀ {i : Nat} {s : Sl}, Γ'[i]? = some s → s = .no ∨ Γ[i]? = some s := by
  induction h with
  | nil => intro i s e; simp at e
  | keep _ ih =>
    intro i s e
    cases i with
    | zero => exact .inr e
    | succ i => exact ih (by simpa using e)
  | drop _ ih =>
    intro i s e
    cases i with
    | zero => cases e; exact .inl rfl
    | succ i => exact ih (by simpa using e)
theorem Wk.refl : ∀ Γ : List Sl, Wk Γ Γ
  | [] => .nil
  | _ :: Γ => .keep (Wk.refl Γ)
theorem Gm.wk {B F H : Hp} {σ : L2.St} (g : Gm C B F H σ Γ) (h : Wk Γ Γ') : Gm C B F H σ Γ' := by
  refine ⟨h.len.trans g.len, fun i s e => ?_, fun i j ds es p e1 e2 e3 e4 => ?_⟩
  · rcases h.get e with rfl | e
    · trivial
    · exact g.ok i s e
  · rcases h.get e1 with z | e1
    · cases z
    · rcases h.get e2 with z | e2
      · cases z
      · exact g.inj i j ds es p e1 e2 e3 e4
section
variable {B F0 : Hp} {D : Ends} {N0 b0 c0 : L2.St → Hp → Prop} {r0 : VK} {te ta tb : TE} {t u : TS} {tt : TT} {m ma mb : WD} {l la lb : WL} {mt : WT} {d x y : PyData} {ds es : List PyData} {i j : Nat} {rt : PyData → Prop} {rn : List PyData → Prop} {e : XK} {X : XP} {P : PyData → Prop} {p q : Prop} {Z : L2.St → Hp → Prop}
theorem at_wk (h : Wk Γ Γ') (k : At C B F0 Γ' Z) : At C B F0 Γ Z := fun F H σ w g e => k F H σ w g (e.wk h)
/-- where an error goes to -/
def RaiseT (A : Str → Addr) (C : Pc) (B F0 : Hp) (Γ : List Sl) (E : L2.St → XK) (X : XP) : Prop := ∀ F H σ cv dd n f, Wd C F H → Grow C.S F0 B F H → Gm C B F H σ Γ → X n f → XcOk (A n) f cv dd H → E σ cv dd H
def RaiseW (A : Str → Addr) (C : Pc) (B F0 : Hp) (e : XK) (X : XP) : Prop := ∀ F H cv dd n f, Wd C F H → Grow C.S F0 B F H → X n f → XcOk (A n) f cv dd H → e cv dd H
theorem RaiseW.tt0 (h : RaiseW A C B F0 e X) : RaiseT A C B F0 Γ (fun _ => e) X := fun F H σ cv dd n f w g _ x c => h F H cv dd n f w g x c
theorem RaiseW.chain {F1 H1 : Hp} (a : Grow C.S F0 B F1 H1) (h : RaiseW A C B F0 e X) : RaiseW A C B F1 e X := fun F H cv dd n f w g => h F H cv dd n f w (a.chain g)
theorem RaiseT.xo {F H : Hp} {σ : L2.St} (h : RaiseT A C B F0 Γ E X) (w : Wd C F H) (g : Grow C.S F0 B F H) (e : Gm C B F H σ Γ) : XOk A C F H (E σ) X := fun n f cv dd F' H' g' w' x c => h F' H' σ cv dd n f w' (g.trans g') (e.grow g') x c
theorem aw_asg {Γ' : PyData → List Sl} (hΓ : ∀ d, Γ.set i (.dat d) = Γ' d) (h : Ew A C E te Γ m) (hx : RaiseT A C B F0 Γ E X) (hm : m P X) (k : ∀ d, P d → At C B F0 (Γ' d) N0) : At C B F0 Γ (tAsg te (gName i) (Ends.mk N0 r0 b0 c0)) := fun F H σ w g e =>
  h P X hm B F H σ w e _ (fun v F1 H1 d g1 w1 pd r => k d pd F1 H1 _ w1 (g.trans g1) (by rw [← hΓ d]; exact (e.grow g1).dat r)) (hx.xo w g e)
theorem aw_asgN {P : List PyData → Prop} {Γ' : List PyData → List Sl} (hΓ : ∀ d, Γ.set i (.own d) = Γ' d) (h : Nw A C E te Γ l) (hx : RaiseT A C B F0 Γ E X) (hm : l P X) (k : ∀ d, P d → At C B F0 (Γ' d) N0) : At C B F0 Γ (tAsg te (gName i) (Ends.mk N0 r0 b0 c0)) := fun F H σ w g e =>
  h P X hm B F H σ w e _ (fun v F1 H1 ds g1 w1 pd ⟨p, vs, ev, hn, hf, hs, hl, r⟩ => by
    subst ev
    refine k ds pd F1 H1 _ w1 (g.trans g1) (by
      rw [← hΓ ds]
      refine (e.grow g1).set ⟨p, vs, rfl, hl, hf, g.fresh hn, hs, r⟩ fun ds' _ j es q eq h1 h2 => ?_
      cases eq
      obtain ⟨q, us, e1, h3, _⟩ := e.ok j _ h1
      rw [h2] at e1; cases e1
      rw [hn] at h3; cases h3)) (hx.xo w g e)
theorem aw_ret (hr : RetOk C B F0 D rt) (h : Ew A C E te Γ m) (hx : RaiseT A C B F0 Γ E X) (hm : m rt X) : At C B F0 Γ (tRet te D) := fun F H σ w g e =>
  h rt X hm B F H σ w e _ (fun v F1 H1 d g1 w1 pd r => hr F1 H1 v d w1 (g.trans g1) pd r) (hx.xo w g e)
theorem aw_retN (hr : RetN C B F0 D rn) (h : Nw A C E te Γ l) (hx : RaiseT A C B F0 Γ E X) (hm : l rn X) : At C B F0 Γ (tRet te D) := fun F H σ w g e =>
  h rn X hm B F H σ w e _ (fun v F1 H1 ds g1 w1 pd ⟨p, vs, ev, hn, hf, hs, hl, r⟩ => by
    subst ev
    exact hr F1 H1 p vs ds w1 (g.trans g1) (g.fresh hn) hf hs hl r pd) (hx.xo w g e)
theorem aw_retO (hr : RetN C B F0 D rn) (h : Γ[i]? = some (.own ds)) (hd : rn ds) : At C B F0 Γ (tRet (tVar i) D) := at_retO hr h hd
/-- .. as data -/
theorem aw_retF (hr : RetOk C B F0 D rt) (h : Γ[i]? = some (.own ds)) (hd : fzW ds rt) : At C B F0 Γ (tRet (tVar i) D) := fun F H σ w g e => by
  obtain ⟨p, vs, e1, hl, hf, hb, hs, r⟩ := e.ok i _ h
  exact ⟨_, e1, hr (upd F p (.lst vs)) H _ (.list ds) (w.freeze hs hl hf) (g.freeze hb hl hf) hd (.lst upd_same (r.mono (Sub.new hf)))⟩
theorem aw_retNone (hr : RetOk C B F0 D rt) (hd : rt .none) : At C B F0 Γ (tRetN D) := fun F H σ w g e => hr F H .non .none w g hd .non
theorem aw_drop (h : Ew A C E te Γ m) (hx : RaiseT A C B F0 Γ E X) (hm : m P X) (k : ∀ d, P d → At C B F0 Γ N0) : At C B F0 Γ (tDrop te (Ends.mk N0 r0 b0 c0)) := fun F H σ w g e =>
  h P X hm B F H σ w e _ (fun v F1 H1 d g1 w1 pd r => k d pd F1 H1 _ w1 (g.trans g1) (e.grow g1)) (hx.xo w g e)
theorem aw_if (h : Tw A C E tt Γ mt) (hx : RaiseT A C B F0 Γ E X) (hm : mt (fun b => iteW b p q) X) (h1 : p → At C B F0 Γ (t D)) (h2 : q → At C B F0 Γ (u D)) : At C B F0 Γ (tIfS tt t u D) := fun F H σ w g e =>
  h _ X hm B F H σ w e _ (fun b F1 H1 g1 w1 pb => by
    cases b with
    | true => exact h1 pb F1 H1 σ w1 (g.trans g1) (e.grow g1)
    | false => exact h2 pb F1 H1 σ w1 (g.trans g1) (e.grow g1)) (hx.xo w g e)
theorem aw_raise (n : Str) (hx : RaiseW A C B F0 e X) (hm : X n none) : At C B F0 Γ (tRaiseC e (A n) D) := fun F H σ w g _ => hx F H (.ref (A n)) none n none w g hm ⟨rfl, rfl⟩
theorem aw_append {Γ' : List PyData → List Sl} {P : List PyData → Prop} (hi : Γ[i]? = some (.own ds)) (hΓ : ∀ d, Γ.set i (.own d) = Γ' d) (h : Ew A C E te Γ m) (hx : RaiseT A C B F0 Γ E X) (hm : m (fun d => appW ds d P) X) (k : ∀ xs, P xs → At C B F0 (Γ' xs) N0) :
    At C B F0 Γ (tDrop (tBM K "list" rAppend (tVar i) (tCons te tNil)) (Ends.mk N0 r0 b0 c0)) := fun F H σ w g e => by
  obtain ⟨p, vs, e1, hl, hf, hb, hs, r⟩ := e.ok i _ hi
  refine ⟨_, e1, .inl ⟨rfl, vs, SqL.of hl⟩, h _ X hm B F H σ w e _ (fun v F1 H1 d g1 w1 pd rv => ?_) (hx.xo w g e)⟩
  have hl1 := g1.hh _ _ hs hl
  have hf1 := g1.nw p (by rw [hl]; exact fun z => nomatch z) hf
  have e2 : Gm C B F1 H1 σ Γ := e.grow g1
  exact ⟨p, vs, v, rfl, rfl, hl1, by rw [r.length]; exact size_lt pd.1, k _ pd.2 F1 _ σ (w1.mut hs hf1) ((g.trans g1).mut hb hf1) (by rw [← hΓ]; exact e2.mut hi e1 ((r.mono g1.ff).append (.one rv)))⟩
theorem aw_extend {Γ' : List PyData → List Sl} {P : List PyData → Prop} (hi : Γ[i]? = some (.own ds)) (hΓ : ∀ d, Γ.set i (.own d) = Γ' d) (h : Lw A C E te Γ l) (hx : RaiseT A C B F0 Γ E X) (hm : l (fun ys => extW ds ys P) X) (k : ∀ xs, P xs → At C B F0 (Γ' xs) N0) :
    At C B F0 Γ (tDrop (tBM K "list" rExtend (tVar i) (tCons te tNil)) (Ends.mk N0 r0 b0 c0)) := fun F H σ w g e => by
  obtain ⟨p, vs, e1, hl, hf, hb, hs, r⟩ := e.ok i _ hi
  refine ⟨_, e1, .inl ⟨rfl, vs, SqL.of hl⟩, h _ X hm B F H σ w e _ (fun v F1 H1 ys g1 w1 pd ⟨b, us, eb, nb, hlb, rb⟩ => ?_) (hx.xo w g e)⟩
  subst eb
  have hl1 := g1.hh _ _ hs hl
  have hf1 := g1.nw p (by rw [hl]; exact fun z => nomatch z) hf
  have e2 : Gm C B F1 H1 σ Γ := e.grow g1
  exact ⟨p, b, vs, us, rfl, rfl, hl1, hlb, by rw [r.length, rb.length]; exact size_ok pd.1, k _ pd.2 F1 _ σ (w1.mut hs hf1) ((g.trans g1).mut hb hf1) (by rw [← hΓ]; exact e2.mut hi e1 ((r.mono g1.ff).append rb))⟩
theorem aw_set {Γ' : List PyData → List Sl} {P : List PyData → Prop} (hi : Γ[i]? = some (.own ds)) (hΓ : ∀ d, Γ.set i (.own d) = Γ' d) (h : Ew A C E te Γ m) (hb' : Ew A C E tb Γ mb) (hx : RaiseT A C B F0 Γ E X) (hm : m (fun d => mb (fun n => setW ds n d P) X) X) (k : ∀ xs, P xs → At C B F0 (Γ' xs) N0) :
    At C B F0 Γ (tAsg te (gSub (tVar i) tb rSetL) (Ends.mk N0 r0 b0 c0)) := fun F H σ w g e => by
  obtain ⟨p, vs, e1, hl, hf, hb, hs, r⟩ := e.ok i _ hi
  refine h _ X hm B F H σ w e _ (fun v F1 H1 d g1 w1 pd rv => ⟨_, e1, hb' _ X pd B F1 H1 σ w1 (e.grow g1) _ (fun u F2 H2 n g2 w2 pn ru => ?_) ((hx.xo w g e).go g1)⟩) (hx.xo w g e)
  unfold setW at pn
  split at pn
  · rename_i n
    obtain ⟨j, hj, pk⟩ := pn
    rw [Rp.int_inv ru]
    have g12 := g1.trans g2
    have hl1 := g12.hh _ _ hs hl
    have hf1 := g12.nw p (by rw [hl]; exact fun z => nomatch z) hf
    have e2 : Gm C B F2 H2 σ Γ := e.grow g12
    exact ⟨p, vs, n, j, rfl, rfl, hl1, by rw [r.length]; exact hj, k _ pk F2 _ σ (w2.mut hs hf1) ((g.trans g12).mut hb hf1) (by rw [← hΓ]; exact e2.mut hi e1 ((r.mono g12.ff).set j (rv.mono g2.ff)))⟩
  · exact pn.elim
/-- own1.append(own2.pop(e)) -/
theorem aw_popTo {Γ' : List PyData → List PyData → List Sl} {P : List PyData → List PyData → Prop} (hx : Γ[i]? = some (.own ds)) (hy : Γ[j]? = some (.own es)) (hij : i ≠ j) (hΓ : ∀ a b, (Γ.set j (.own b)).set i (.own a) = Γ' a b) (h : Ew A C E te Γ m) (hX : RaiseT A C B F0 Γ E X)
    (hm : m (fun n => popW es n fun d es' => appW ds d fun ds' => P ds' es') X) (k : ∀ a b, P a b → At C B F0 (Γ' a b) N0) :
    At C B F0 Γ (tDrop (tBM K "list" rAppend (tVar i) (tCons (tBM K "list" rPopAt (tVar j) (tCons te tNil)) tNil)) (Ends.mk N0 r0 b0 c0)) := fun F H σ w g e => by
  obtain ⟨p, vs, e1, hl, hf, hb, hs, r⟩ := e.ok i _ hx
  obtain ⟨q, us, f1, kl, kf, kb, ks, rq⟩ := e.ok j _ hy
  refine ⟨_, e1, .inl ⟨rfl, vs, SqL.of hl⟩, _, f1, .inl ⟨rfl, us, SqL.of kl⟩, h _ X hm B F H σ w e _ (fun v F1 H1 n g1 w1 pn rv => ?_) (hX.xo w g e)⟩
  unfold popW at pn
  split at pn
  · rename_i n
    obtain ⟨z1, z2, z3, pk⟩ := pn
    rw [Rp.int_inv rv]
    obtain ⟨m, rfl⟩ : ∃ m : Nat, n = m := ⟨n.toNat, by omega⟩
    rw [Int.toNat_natCast] at pk
    have hm : m < es.length := by omega
    have npq : p ≠ q := fun z => hij (e.inj i j ds es p hx hy e1 (z ▸ f1))
    have e2 : Gm C B F1 H1 σ Γ := e.grow g1
    have kl1 := g1.hh _ _ ks kl
    have hl1 := g1.hh _ _ hs hl
    have rq1 := rq.mono g1.ff
    have hf1 := g1.nw p (by rw [hl]; exact fun z => nomatch z) hf
    have kf1 := g1.nw q (by rw [kl]; exact fun z => nomatch z) kf
    obtain ⟨d, hd⟩ : ∃ d, es[m]? = some d := ⟨_, List.getElem?_eq_getElem hm⟩
    obtain ⟨v, hv, rv⟩ := rq1.get hd
    obtain ⟨hz, pk2⟩ := pk d hd
    refine ⟨q, us, (m : Nat), m, v, rfl, rfl, kl1, by omega, by omega, ?_, hv, ?_⟩
    · rw [rq.length]; exact seqIndex_of (by omega) (by omega)
    · refine ⟨p, vs, v, rfl, rfl, by rw [upd_ne npq]; exact hl1, by rw [r.length]; exact size_lt hz, ?_⟩
      have e3 := e2.mut hy f1 (rq1.eraseIdx m)
      have hx' : (Γ.set j (.own (es.eraseIdx m)))[i]? = some (.own ds) := by rw [List.getElem?_set_ne (Ne.symm hij)]; exact hx
      have g3 := (g.trans g1).mut (o := .lst (us.eraseIdx m)) kb kf1
      exact k _ _ pk2 F1 _ σ ((w1.mut ks kf1).mut hs hf1) (g3.mut hb hf1) (by rw [← hΓ]; exact e3.mut hx' e1 ((r.mono g1.ff).append (.one rv)))
  · exact pn.elim
/-- x = own.pop(e) -/
theorem aw_pop {Γ' : PyData → List PyData → List Sl} {P : PyData → List PyData → Prop} (hy : Γ[j]? = some (.own es)) (hij : i ≠ j) (hΓ : ∀ a b, (Γ.set j (.own b)).set i (.dat a) = Γ' a b) (h : Ew A C E te Γ m) (hX : RaiseT A C B F0 Γ E X)
    (hm : m (fun n => popW es n P) X) (k : ∀ a b, P a b → At C B F0 (Γ' a b) N0) :
    At C B F0 Γ (tAsg (tBM K "list" rPopAt (tVar j) (tCons te tNil)) (gName i) (Ends.mk N0 r0 b0 c0)) := fun F H σ w g e => by
  obtain ⟨q, us, f1, kl, kf, kb, ks, rq⟩ := e.ok j _ hy
  refine ⟨_, f1, .inl ⟨rfl, us, SqL.of kl⟩, h _ X hm B F H σ w e _ (fun v F1 H1 n g1 w1 pn rv => ?_) (hX.xo w g e)⟩
  unfold popW at pn
  split at pn
  · rename_i n
    obtain ⟨z1, z2, z3, pk⟩ := pn
    rw [Rp.int_inv rv]
    obtain ⟨m, rfl⟩ : ∃ m : Nat, n = m := ⟨n.toNat, by omega⟩
    rw [Int.toNat_natCast] at pk
    have hm : m < es.length := by omega
    have e2 : Gm C B F1 H1 σ Γ := e.grow g1
    have kl1 := g1.hh _ _ ks kl
    have rq1 := rq.mono g1.ff
    have kf1 := g1.nw q (by rw [kl]; exact fun z => nomatch z) kf
    obtain ⟨d, hd⟩ : ∃ d, es[m]? = some d := ⟨_, List.getElem?_eq_getElem hm⟩
    obtain ⟨v, hv, rv⟩ := rq1.get hd
    refine ⟨q, us, (m : Nat), m, v, rfl, rfl, kl1, by omega, by omega, ?_, hv, ?_⟩
    · rw [rq.length]; exact seqIndex_of (by omega) (by omega)
    · exact k _ _ (pk d hd) F1 _ _ (w1.mut ks kf1) ((g.trans g1).mut kb kf1) (by rw [← hΓ]; exact (e2.mut hy f1 (rq1.eraseIdx m)).dat rv)
  · exact pn.elim
theorem aw_aug {Γ' : PyData → List Sl} {f : Int → Int → Int} (hi : Γ[i]? = some (.dat x)) (hΓ : ∀ d, Γ.set i (.dat d) = Γ' d) (h : Ew A C E te Γ m) (hx : RaiseT A C B F0 Γ E X) (hm : m (fun y => augW f x y P) X) (k : ∀ d, P d → At C B F0 (Γ' d) N0) :
    At C B F0 Γ (tAug i te (ipI f) (Ends.mk N0 r0 b0 c0)) := fun F H σ w g e => by
  obtain ⟨v, e1, r⟩ := e.get hi
  refine ⟨_, e1, h _ X hm B F H σ w e _ (fun u F1 H1 y g1 w1 h1 r1 => ?_) (hx.xo w g e)⟩
  unfold augW at h1
  split at h1
  · exact ⟨_, _, r.int_inv, Rp.int_inv r1, k _ h1 F1 H1 _ w1 (g.trans g1) (by rw [← hΓ]; exact (e.grow g1).dat (.int _))⟩
  · exact h1.elim
/-- what follows an if is named -/
theorem aw_join {κ : Type} {f : κ → Prop} {k : κ} (J : κ → (L2.St → Hp → Prop) → Prop) (h : joinW f k) (hj : J k (u D)) (hm : ∀ k, J k (u D) → f k → At C B F0 Γ (t (Ends.mk (u D) D.rt D.bk D.ct))) : At C B F0 Γ (tSeq t u D) := hm k hj h
theorem RetOk.of {D' : Ends} (h : RetOk C B F0 D rt) (e : D'.rt = D.rt) : RetOk C B F0 D' rt := fun F H v d w g p r => by
  rw [e]; exact h F H v d w g p r
theorem rok_chain (hr : RetOk C B F0 (Ends.mk N0 r0 b0 c0) rt) : ∀ F1 H1 D', Grow C.S F0 B F1 H1 → D'.rt = r0 → RetOk C B F1 D' rt := fun F1 H1 D' gr e F H v d w g h r => by
  rw [e]; exact hr F H v d w (gr.chain g) h r
theorem ron_chain (hr : RetN C B F0 (Ends.mk N0 r0 b0 c0) rn) : ∀ F1 H1 D', Grow C.S F0 B F1 H1 → D'.rt = r0 → RetN C B F1 D' rn := fun F1 H1 D' gr e F H p us es w g h1 h2 h3 h4 h5 h6 => by
  rw [e]; exact hr F H p us es w (gr.chain g) h1 h2 h3 h4 h5 h6
theorem aw_seq (h : At C B F0 Γ (t (Ends.mk (u D) D.rt D.bk D.ct))) : At C B F0 Γ (tSeq t u D) := h
theorem aw_next (h : At C B F0 Γ N0) : At C B F0 Γ (tNext (Ends.mk N0 r0 b0 c0)) := h
theorem aw_for {σT : Type} {wi : TI} {g : TG} {vs : List Nat} {body : PyData → σT → (σT → Prop) → (σT → Prop) → Prop} {done : σT → Prop} {s0 : σT} (Γs : σT → List Sl) (hw : Wk Γ (Γs s0)) (hi : Fw A C (fun _ => e) wi (Γs s0) l) (Ro : Hp → Ends → Prop) (hc0 : ∀ F1 H1 D', Grow C.S F0 B F1 H1 → D'.rt = r0 → Ro F1 D') (hx : RaiseW A C B F0 e X)
    (hm : l (fun items => forW body done items s0) X)
    (hb : ∀ (F0 : Hp) (x : PyData) (s : σT) (nx bk : σT → Prop) (D : Ends), Ro F0 D → RaiseW A C B F0 e X → (∀ s, nx s → At C B F0 (Γs s) D.nx) → (∀ s, nx s → At C B F0 (Γs s) D.ct) → (∀ s, bk s → At C B F0 (Γs s) D.bk) → body x s nx bk → ∃ Γx, TgD g vs (Γs s) x Γx ∧ At C B F0 Γx (t D))
    (hd : ∀ s, done s → At C B F0 (Γs s) N0) : At C B F0 Γ (tFor wi g t (Ends.mk N0 r0 b0 c0)) := fun F H σ w gr e =>
  hi _ X hm B F H σ w (e.wk hw) _ (fun J F1 H1 xs g1 w1 hP wk => by
    have gb : Grow C.S F0 B F1 H1 := gr.trans g1
    refine ⟨fun i m σ' H' => i + m = xs.length ∧ ∃ F' s, forW body done (xs.drop i) s ∧ Wd C F' H' ∧ Grow C.S F1 B F' H' ∧ Gm C B F' H' σ' (Γs s), ⟨xs.length, by omega, F1, s0, hP, w1, gb.start, (e.wk hw).grow g1⟩, fun i m σ' H' ⟨hm, F', s, is, w2, g2, e2⟩ => ?_⟩
    by_cases hlt : i < xs.length
    · refine .inr ?_
      obtain ⟨x, hx'⟩ : ∃ x, xs[i]? = some x := ⟨_, List.getElem?_eq_getElem hlt⟩
      have hdr : xs.drop i = x :: xs.drop (i + 1) := by
        rw [← (List.getElem?_eq_some_iff.mp hx').2, List.getElem_cons_drop]
      rw [hdr] at is
      obtain ⟨go, yl⟩ := (wk F' H' g2.ff g2.fh).1 i x hx'
      let N : L2.St → Hp → Prop := fun σ'' H'' => ∃ F'' s, forW body done (xs.drop (i + 1)) s ∧ Wd C F'' H'' ∧ Grow C.S F1 B F'' H'' ∧ Gm C B F'' H'' σ'' (Γs s)
      refine ⟨go, N, fun σ'' H'' h'' => ⟨m - 1, by omega, by omega, h''⟩, fun v H'' y => ?_⟩
      obtain ⟨F'', g3, rv⟩ := yl v H'' y
      obtain ⟨Γx, ht, hat⟩ := hb F1 x s _ _ (Ends.mk N r0 N0 N) (hc0 F1 H1 _ gb rfl) (hx.chain gb) (fun s hs F H σ w g e => ⟨F, s, hs, w, g, e⟩) (fun s hs F H σ w g e => ⟨F, s, hs, w, g, e⟩)
        (fun s hs => At.chain gb (hd s hs)) is
      exact ht C B F'' H'' σ' v g3.fh (e2.grow g3.weak) rv _ fun σ3 e3 _ => hat F'' H'' σ3 (w2.grow g3) (g2.trans g3.weak) e3
    · refine .inl ?_
      have ei : i = xs.length := by omega
      subst ei
      rw [List.drop_length] at is
      exact ⟨(wk F' H' g2.ff g2.fh).2, hd s is F' H' σ' w2 (gb.chain g2) e2⟩) ((RaiseW.tt0 hx).xo w gr (e.wk hw))
theorem aw_while {σT : Type} {cond : σT → (Bool → Prop) → Prop} {body : σT → (σT → Prop) → (σT → Prop) → Prop} {done : σT → Prop} {s0 : σT} (Γs : σT → List Sl) (hw : Wk Γ (Γs s0)) (Ro : Hp → Ends → Prop) (hc0 : ∀ F1 H1 D', Grow C.S F0 B F1 H1 → D'.rt = r0 → Ro F1 D') (hx : RaiseW A C B F0 e X)
    (hm : whileW s0 cond body done)
    (hc : ∀ s, ∃ mt, Tw A C (fun _ => e) tt (Γs s) mt ∧ ∀ k, cond s k → mt k X)
    (hb : ∀ (F0 : Hp) (s : σT) (nx bk : σT → Prop) (D : Ends), Ro F0 D → RaiseW A C B F0 e X → (∀ s, nx s → At C B F0 (Γs s) D.nx) → (∀ s, nx s → At C B F0 (Γs s) D.ct) → (∀ s, bk s → At C B F0 (Γs s) D.bk) → body s nx bk → At C B F0 (Γs s) (t D))
    (hd : ∀ s, done s → At C B F0 (Γs s) N0) : At C B F0 Γ (tWhile tt t (Ends.mk N0 r0 b0 c0)) := fun F H σ w gr e => by
  obtain ⟨I, μ, h0, hI⟩ := hm
  refine ⟨fun m σ' H' => ∃ s, m = μ s ∧ I s ∧ ∃ F', Wd C F' H' ∧ Grow C.S F0 B F' H' ∧ Gm C B F' H' σ' (Γs s), ⟨_, s0, rfl, h0, F, w, gr, e.wk hw⟩, fun m σ' H' ⟨s, hm, hIs, F', w2, g2, e2⟩ => ?_⟩
  subst hm
  obtain ⟨mt, htw, hmt⟩ := hc s
  refine htw _ X (hmt _ (hI s hIs)) B F' H' σ' w2 e2 _ (fun b F3 H3 g3 w3 pb => ?_) ((RaiseW.tt0 hx).xo w2 g2 e2)
  cases b with
  | true =>
    rw [if_pos rfl]
    let N : L2.St → Hp → Prop := fun σ'' H'' => ∃ s', μ s' < μ s ∧ I s' ∧ ∃ F'', Wd C F'' H'' ∧ Grow C.S F0 B F'' H'' ∧ Gm C B F'' H'' σ'' (Γs s')
    refine ⟨N, fun σ'' H'' ⟨s', hl, hI', k⟩ => ⟨μ s', hl, s', rfl, hI', k⟩, ?_⟩
    have gb := g2.trans g3
    exact hb F0 s (fun s' => I s' ∧ μ s' < μ s) done (Ends.mk N r0 N0 N) (hc0 F0 H3 _ ⟨Sub.refl _, fun a o h => gb.fh a o (gb.ff a o h), gb.hh, gb.th, fun _ _ n => n⟩ rfl) hx (fun s' hs F H σ w g e => ⟨s', hs.2, hs.1, F, w, g, e⟩) (fun s' hs F H σ w g e => ⟨s', hs.2, hs.1, F, w, g, e⟩) hd pb F3 H3 σ' w3 (g2.trans g3) (e2.grow g3)
  | false =>
    rw [if_neg Bool.false_ne_true]
    exact hd s pb F3 H3 σ' w3 (g2.trans g3) (e2.grow g3)
end
/-! ### a def's body -/
section
variable {N : List Str} {t : XK → TS} {vs : List V} {H : Hp} {Q : VK} {E : XK} {Fm : Pc → Prop}
theorem spF_body {W : List PyData → WD} (h : spF A W vs H Q E)
    (hb : ∀ ds rt er (B F0 : Hp) (D : Ends), W ds rt er → RetOk pc0 B F0 D rt → RaiseW A pc0 B F0 E er → (rt .none → ∀ Γ, At pc0 B F0 Γ D.nx) → At pc0 B F0 (startG N.length ds) (t E D)) : t E { nx := fun _ H' => Q .non H', rt := Q } (L2.start N vs) H := by
  obtain ⟨F, ds, P, X, s, r, hW, hok, herr⟩ := h
  exact hb ds P X H F { nx := fun _ H' => Q .non H', rt := Q } hW (fun F1 H1 v d _ g pd rd => hok d v F1 H1 pd g rd) (fun F1 H1 cv dd n f w g x c => herr n f cv dd F1 H1 g w x c)
    (fun pn Γ F1 H1 σ _ g _ => hok .none .non F1 H1 pn g .non) F H _ (wd0 s) (.refl s) (start_gm r)
theorem spFN_body {W : List PyData → WL} (h : spFN A W vs H Q E)
    (hb : ∀ ds rt er (B F0 : Hp) (D : Ends), W ds rt er → RetN pc0 B F0 D rt → RaiseW A pc0 B F0 E er → At pc0 B F0 (startG N.length ds) (t E D)) : t E { nx := fun _ H' => Q .non H', rt := Q } (L2.start N vs) H := by
  obtain ⟨F, ds, P, X, s, r, hW, hok, herr⟩ := h
  exact hb ds P X H F { nx := fun _ H' => Q .non H', rt := Q } hW (fun F1 H1 p us es _ g hb hf _ hl ra pd => hok es p us F1 H1 pd g hb hf hl ra) (fun F1 H1 cv dd n f w g x c => herr n f cv dd F1 H1 g w x c) F H _ (wd0 s) (.refl s) (start_gm r)
theorem spP_body {W : List PyData → WD} (h : spP A Fm W vs H Q E)
    (hb : ∀ C, Fm C → ∀ ds rt er (B F0 : Hp) (D : Ends), W ds rt er → RetOk C B F0 D rt → RaiseW A C B F0 E er → (rt .none → ∀ Γ, At C B F0 Γ D.nx) → At C B F0 (startP N.length ds) (t E D)) : t E { nx := fun _ H' => Q .non H', rt := Q } (L2.start N vs) H := by
  obtain ⟨C, F, ws, ds, P, X, hf, rfl, w, r, hW, hok, herr⟩ := h
  exact hb C hf ds P X H F { nx := fun _ H' => Q .non H', rt := Q } hW (fun F1 H1 v d w1 g pd rd => hok d v F1 H1 pd g w1 rd) (fun F1 H1 cv dd n f w g x c => herr n f cv dd F1 H1 g w x c)
    (fun pn Γ F1 H1 σ w1 g _ => hok .none .non F1 H1 pn g w1 .non) F H _ w (.refl w.sub) (startP_gm r)
theorem spPN_body {W : List PyData → WL} (h : spPN A Fm W vs H Q E)
    (hb : ∀ C, Fm C → ∀ ds rt er (B F0 : Hp) (D : Ends), W ds rt er → RetN C B F0 D rt → RaiseW A C B F0 E er → At C B F0 (startP N.length ds) (t E D)) : t E { nx := fun _ H' => Q .non H', rt := Q } (L2.start N vs) H := by
  obtain ⟨C, F, ws, ds, P, X, hf, rfl, w, r, hW, hok, herr⟩ := h
  exact hb C hf ds P X H F { nx := fun _ H' => Q .non H', rt := Q } hW (fun F1 H1 p us es w1 g hb hf hs hl ra pd => hok es p us F1 H1 pd g w1 hb hf hs hl ra) (fun F1 H1 cv dd n f w g x c => herr n f cv dd F1 H1 g w x c) F H _ w (.refl w.sub) (startP_gm r)
theorem spF_len {W : List PyData → WD} {n : Nat} (h : ∀ ds P X, W ds P X → ds.length = n) : ∀ vs H Q E, spF A W vs H Q E → vs.length = n := fun vs H Q E ⟨F, ds, P, X, _, r, hW, _⟩ => r.length.trans (h ds P X hW)
theorem spFN_len {W : List PyData → WL} {n : Nat} (h : ∀ ds P X, W ds P X → ds.length = n) : ∀ vs H Q E, spFN A W vs H Q E → vs.length = n := fun vs H Q E ⟨F, ds, P, X, _, r, hW, _⟩ => r.length.trans (h ds P X hW)
theorem spP_len {W : List PyData → WD} {n : Nat} (h : ∀ ds P X, W ds P X → ds.length + 1 = n) : ∀ vs H Q E, spP A Fm W vs H Q E → vs.length = n := fun vs H Q E ⟨C, F, ws, ds, P, X, _, e, _, r, hW, _⟩ => by
  rw [e, List.length_cons, r.length]; exact h ds P X hW
theorem spPN_len {W : List PyData → WL} {n : Nat} (h : ∀ ds P X, W ds P X → ds.length + 1 = n) : ∀ vs H Q E, spPN A Fm W vs H Q E → vs.length = n := fun vs H Q E ⟨C, F, ws, ds, P, X, _, e, _, r, hW, _⟩ => by
  rw [e, List.length_cons, r.length]; exact h ds P X hW
end
end Eh

namespace Eh
open PySem PySem.Spec PyProof.Rows L2
/-! ### a def's arguments in a row -/
@[reducible] def vl0 {α : Type} (f : (α → Prop) → XP → Prop) (ds : List PyData) (P : α → Prop) (X : XP) : Prop := match ds with | [] => f P X | _ => False
theorem vl0_inv {α : Type} {f : (α → Prop) → XP → Prop} {ds : List PyData} {P : α → Prop} {X : XP} (h : vl0 f ds P X) : ds = [] ∧ f P X := by
  unfold vl0 at h
  split at h
  · exact ⟨rfl, h⟩
  · exact h.elim
theorem vl0_len {α : Type} {f : (α → Prop) → XP → Prop} (ds : List PyData) (P : α → Prop) (X : XP) (h : vl0 f ds P X) : ds.length = 0 := by
  obtain ⟨rfl, _⟩ := vl0_inv h
  rfl
@[reducible] def vl1 {α : Type} (f : PyData → (α → Prop) → XP → Prop) (ds : List PyData) (P : α → Prop) (X : XP) : Prop := match ds with | [a1] => f a1 P X | _ => False
theorem vl1_inv {α : Type} {f : PyData → (α → Prop) → XP → Prop} {ds : List PyData} {P : α → Prop} {X : XP} (h : vl1 f ds P X) : ∃ a1, ds = [a1] ∧ f a1 P X := by
  unfold vl1 at h
  split at h
  · exact ⟨_, rfl, h⟩
  · exact h.elim
theorem vl1_len {α : Type} {f : PyData → (α → Prop) → XP → Prop} (ds : List PyData) (P : α → Prop) (X : XP) (h : vl1 f ds P X) : ds.length = 1 := by
  obtain ⟨_, rfl, _⟩ := vl1_inv h
  rfl
@[reducible] def vl2 {α : Type} (f : PyData → PyData → (α → Prop) → XP → Prop) (ds : List PyData) (P : α → Prop) (X : XP) : Prop := match ds with | [a1, a2] => f a1 a2 P X | _ => False
theorem vl2_inv {α : Type} {f : PyData → PyData → (α → Prop) → XP → Prop} {ds : List PyData} {P : α → Prop} {X : XP} (h : vl2 f ds P X) : ∃ a1 a2, ds = [a1, a2] ∧ f a1 a2 P X := by
  unfold vl2 at h
  split at h
  · exact ⟨_, _, rfl, h⟩
  · exact h.elim
theorem vl2_len {α : Type} {f : PyData → PyData → (α → Prop) → XP → Prop} (ds : List PyData) (P : α → Prop) (X : XP) (h : vl2 f ds P X) : ds.length = 2 := by
  obtain ⟨_, _, rfl, _⟩ := vl2_inv h
  rfl
@[reducible] def vl3 {α : Type} (f : PyData → PyData → PyData → (α → Prop) → XP → Prop) (ds : List PyData) (P : α → Prop) (X : XP) : Prop := match ds with | [a1, a2, a3] => f a1 a2 a3 P X | _ => False
theorem vl3_inv {α : Type} {f : PyData → PyData → PyData → (α → Prop) → XP → Prop} {ds : List PyData} {P : α → Prop} {X : XP} (h : vl3 f ds P X) : ∃ a1 a2 a3, ds = [a1, a2, a3] ∧ f a1 a2 a3 P X := by
  unfold vl3 at h
  split at h
  · exact ⟨_, _, _, rfl, h⟩
  · exact h.elim
theorem vl3_len {α : Type} {f : PyData → PyData → PyData → (α → Prop) → XP → Prop} (ds : List PyData) (P : α → Prop) (X : XP) (h : vl3 f ds P X) : ds.length = 3 := by
  obtain ⟨_, _, _, rfl, _⟩ := vl3_inv h
  rfl
@[reducible] def vl4 {α : Type} (f : PyData → PyData → PyData → PyData → (α → Prop) → XP → Prop) (ds : List PyData) (P : α → Prop) (X : XP) : Prop := match ds with | [a1, a2, a3, a4] => f a1 a2 a3 a4 P X | _ => False
theorem vl4_inv {α : Type} {f : PyData → PyData → PyData → PyData → (α → Prop) → XP → Prop} {ds : List PyData} {P : α → Prop} {X : XP} (h : vl4 f ds P X) : ∃ a1 a2 a3 a4, ds = [a1, a2, a3, a4] ∧ f a1 a2 a3 a4 P X := by
  unfold vl4 at h
  split at h
  · exact ⟨_, _, _, _, rfl, h⟩
  · exact h.elim
theorem vl4_len {α : Type} {f : PyData → PyData → PyData → PyData → (α → Prop) → XP → Prop} (ds : List PyData) (P : α → Prop) (X : XP) (h : vl4 f ds P X) : ds.length = 4 := by
  obtain ⟨_, _, _, _, rfl, _⟩ := vl4_inv h
  rfl
@[reducible] def vl5 {α : Type} (f : PyData → PyData → PyData → PyData → PyData → (α → Prop) → XP → Prop) (ds : List PyData) (P : α → Prop) (X : XP) : Prop := match ds with | [a1, a2, a3, a4, a5] => f a1 a2 a3 a4 a5 P X | _ => False
theorem vl5_inv {α : Type} {f : PyData → PyData → PyData → PyData → PyData → (α → Prop) → XP → Prop} {ds : List PyData} {P : α → Prop} {X : XP} (h : vl5 f ds P X) : ∃ a1 a2 a3 a4 a5, ds = [a1, a2, a3, a4, a5] ∧ f a1 a2 a3 a4 a5 P X := by
  unfold vl5 at h
  split at h
  · exact ⟨_, _, _, _, _, rfl, h⟩
  · exact h.elim
theorem vl5_len {α : Type} {f : PyData → PyData → PyData → PyData → PyData → (α → Prop) → XP → Prop} (ds : List PyData) (P : α → Prop) (X : XP) (h : vl5 f ds P X) : ds.length = 5 := by
  obtain ⟨_, _, _, _, _, rfl, _⟩ := vl5_inv h
  rfl
@[reducible] def vl6 {α : Type} (f : PyData → PyData → PyData → PyData → PyData → PyData → (α → Prop) → XP → Prop) (ds : List PyData) (P : α → Prop) (X : XP) : Prop := match ds with | [a1, a2, a3, a4, a5, a6] => f a1 a2 a3 a4 a5 a6 P X | _ => False
theorem vl6_inv {α : Type} {f : PyData → PyData → PyData → PyData → PyData → PyData → (α → Prop) → XP → Prop} {ds : List PyData} {P : α → Prop} {X : XP} (h : vl6 f ds P X) : ∃ a1 a2 a3 a4 a5 a6, ds = [a1, a2, a3, a4, a5, a6] ∧ f a1 a2 a3 a4 a5 a6 P X := by
  unfold vl6 at h
  split at h
  · exact ⟨_, _, _, _, _, _, rfl, h⟩
  · exact h.elim
theorem vl6_len {α : Type} {f : PyData → PyData → PyData → PyData → PyData → PyData → (α → Prop) → XP → Prop} (ds : List PyData) (P : α → Prop) (X : XP) (h : vl6 f ds P X) : ds.length = 6 := by
  obtain ⟨_, _, _, _, _, _, rfl, _⟩ := vl6_inv h
  rfl
@[reducible] def vl7 {α : Type} (f : PyData → PyData → PyData → PyData → PyData → PyData → PyData → (α → Prop) → XP → Prop) (ds : List PyData) (P : α → Prop) (X : XP) : Prop := match ds with | [a1, a2, a3, a4, a5, a6, a7] => f a1 a2 a3 a4 a5 a6 a7 P X | _ => False
theorem vl7_inv {α : Type} {f : PyData → PyData → PyData → PyData → PyData → PyData → PyData → (α → Prop) → XP → Prop} {ds : List PyData} {P : α → Prop} {X : XP} (h : vl7 f ds P X) : ∃ a1 a2 a3 a4 a5 a6 a7, ds = [a1, a2, a3, a4, a5, a6, a7] ∧ f a1 a2 a3 a4 a5 a6 a7 P X := by
  unfold vl7 at h
  split at h
  · exact ⟨_, _, _, _, _, _, _, rfl, h⟩
  · exact h.elim
theorem vl7_len {α : Type} {f : PyData → PyData → PyData → PyData → PyData → PyData → PyData → (α → Prop) → XP → Prop} (ds : List PyData) (P : α → Prop) (X : XP) (h : vl7 f ds P X) : ds.length = 7 := by
  obtain ⟨_, _, _, _, _, _, _, rfl, _⟩ := vl7_inv h
  rfl

/-! ### own lists handed to a call for its time -/
mutual
def noList : PyData → Bool
  | .list _ => false
  | .tuple xs => noLists xs
  | .dict _ => false
  | _ => true
def noLists : List PyData → Bool
  | [] => true
  | x :: xs => noList x && noLists xs
end
def noLW (d : PyData) (k : DP) : Prop := noList d = true ∧ k d
variable {A : Str → Addr} {C : Pc} {E : L2.St → XK} {Γ Γ' : List Sl} {K : PySem.W.Frag} {w : World}
def AwO (A : Str → Addr) (C : Pc) (E : L2.St → XK) (ta : TA) (Γ : List Sl) (m : WL) : Prop :=
  ∀ P X, m P X → ∀ (B F H : Hp) (σ : L2.St), Wd C F H → Gm C B F H σ Γ → ∀ Q : List V → Hp → Prop,
    (∀ vs F' H' Fo ds, Grow C.S F H F' H' → Wd C F' H' → Sub F' Fo → Wd C Fo H' → (∀ a o, Fo a = some o → F' a = some o ∨ ∃ us, o = .lst us) → P ds → RpAll Fo vs ds → Q vs H') → XOk A C F H (E σ) X → ta σ H Q
mutual
theorem Rp.less {F G : Hp} (h : ∀ a xs, F a = some (.tup xs) → G a = some (.tup xs)) : ∀ {v : V} {d : PyData}, noList d = true → Rp F v d → Rp G v d
  | _, _, _, .non => .non
  | _, _, _, .bl b => .bl b
  | _, _, _, .int i => .int i
  | _, _, _, .str x => .str x
  | _, _, n, .lst f a => by cases n
  | _, _, n, .tup f a => .tup (h _ _ f) (RpAll.less h n a)
theorem RpAll.less {F G : Hp} (h : ∀ a xs, F a = some (.tup xs) → G a = some (.tup xs)) : ∀ {vs : List V} {ds : List PyData}, noLists ds = true → RpAll F vs ds → RpAll G vs ds
  | _, _, _, .nil => .nil
  | _, _, n, .cons r a => by
    have n' : (noList _ && noLists _) = true := n
    rw [Bool.and_eq_true] at n'
    exact .cons (Rp.less h n'.1 r) (RpAll.less h n'.2 a)
end
section
variable {te : TE} {ts : TA} {m ma : WD} {l : WL} {ds : List PyData} {i : Nat} {Wf : List PyData → WD} {e : XK} {Fm : Pc → Prop}
theorem awo_nil : AwO A C E tNil Γ (fun P _ => P []) := fun P X hm B F H σ wd g Q q _ => q [] F H F [] (.refl wd.sub) wd (.refl _) wd (fun _ _ h => .inl h) hm .nil
theorem awo_cons (ha : Ew A C E te Γ ma) (hb : AwO A C E ts Γ l) : AwO A C E (tCons te ts) Γ (fun P X => ma (fun x => l (fun xs => P (x :: xs)) X) X) :=
  fun P X hm B F H σ wd g Q q xo => ha _ X hm B F H σ wd g _ (fun v F1 H1 x g1 w1 h1 r1 => hb _ X h1 B F1 H1 σ w1 (g.grow g1) _ (fun vs F2 H2 Fo xs g2 w2 s1 wo ex h2 r2 =>
    q _ F2 H2 Fo _ (g1.trans g2) w2 s1 wo ex h2 (.cons ((r1.mono g2.ff).mono s1) r2)) (xo.go g1)) xo
theorem awo_own (hi : Γ[i]? = some (.own ds)) (hb : AwO A C E ts Γ l) : AwO A C E (tCons (tVar i) ts) Γ (fun P X => l (fun xs => P (.list ds :: xs)) X) :=
  fun P X hm B F H σ wd g Q q xo => by
    obtain ⟨p, us, e1, hl, hf, hb', hs, r⟩ := g.ok i _ hi
    refine ⟨_, e1, hb _ X hm B F H σ wd g _ (fun vs F2 H2 Fo xs g2 w2 s1 wo ex h2 r2 => ?_) xo⟩
    have hl2 := g2.hh _ _ hs hl
    have hf2 := g2.nw p (by rw [hl]; exact fun z => nomatch z) hf
    have r3 := r.mono g2.ff
    by_cases hp : Fo p = none
    · refine q _ F2 H2 (upd Fo p (.lst us)) _ g2 w2 (s1.trans (Sub.new hp)) (wo.freeze hs hl2 hp) (fun a o ea => ?_) h2 (.cons (.lst upd_same ((r3.mono s1).mono (Sub.new hp))) (r2.mono (Sub.new hp)))
      by_cases z : a = p
      · subst z; rw [upd_same] at ea; cases ea; exact .inr ⟨_, rfl⟩
      · rw [upd_ne z] at ea; exact ex a o ea
    · cases hq : Fo p with
      | none => exact absurd hq hp
      | some o =>
        have e3 := wo.sub _ _ hq
        rw [hl2] at e3; cases e3
        exact q _ F2 H2 Fo _ g2 w2 s1 wo ex h2 (.cons (.lst hq (r3.mono s1)) r2)
theorem less_grow {S : List Addr} {F' Fo F2 H' H2 : Hp} (s1 : Sub F' Fo) (sw : Sub F' H') (g : Grow S Fo H' F2 H2) : ∃ F3, Grow S F' H' F3 H2 ∧ (∀ a xs, (∀ a o, Fo a = some o → F' a = some o ∨ ∃ us, o = HO.lst us) → F2 a = some (.tup xs) → F3 a = some (.tup xs)) ∧ (∀ a, F2 a = none → F3 a = none) := by
  classical
  refine ⟨fun a => if F' a = none ∧ Fo a ≠ none then none else F2 a, ⟨fun a o e => ?_, fun a o e => ?_, g.hh, g.th, fun a h n => ?_⟩, fun a xs ex e => ?_, fun a e => ?_⟩
  · have : ¬ (F' a = none ∧ Fo a ≠ none) := fun z => by rw [z.1] at e; cases e
    simp only [if_neg this]
    exact g.ff _ _ (s1 _ _ e)
  · have e' : (if F' a = none ∧ Fo a ≠ none then none else F2 a) = some o := e
    split at e'
    · cases e'
    · exact g.fh _ _ e'
  · show (if F' a = none ∧ Fo a ≠ none then none else F2 a) = none
    split
    · rfl
    · rename_i z
      cases q : Fo a with
      | none => exact g.nw a h q
      | some o => exact absurd ⟨n, by rw [q]; exact fun z => nomatch z⟩ z
  · have : ¬ (F' a = none ∧ Fo a ≠ none) := fun z => by
      cases q : Fo a with
      | none => exact z.2 q
      | some o =>
        rcases ex a o q with h | ⟨us, rfl⟩
        · rw [z.1] at h; cases h
        · have := g.ff _ _ q
          rw [e] at this; cases this
    simp only [if_neg this]
    exact e
  · show (if F' a = none ∧ Fo a ≠ none then none else F2 a) = none
    split
    · rfl
    · exact e
theorem ew_callO (h : AwO A C (fun _ => e) ts Γ l) : Ew A C (fun _ => e) (tCall (spF A Wf) [] e ts) Γ (fun P X => l (fun ds => Wf ds (fun d => noLW d P) X) X) := fun P X hm B F H σ wd g Q q xo =>
  h _ X hm B F H σ wd g _ (fun vs F1 H1 Fo ds g1 w1 s1 wo ex h1 r1 => by
    refine ⟨Fo, ds, _, X, wo.sub, by rw [List.append_nil]; exact r1, h1, fun d v F2 H2 pd g2 r2 => ?_, fun n f cv dd F2 H2 g2 _ hx hc => ?_⟩
    · obtain ⟨F3, g3, ht, _⟩ := less_grow s1 w1.sub g2
      exact q v F3 H2 d (g1.trans g3.weak) (w1.grow g3) pd.2 (r2.less (fun a xs => ht a xs ex) pd.1)
    · obtain ⟨F3, g3, ht, _⟩ := less_grow s1 w1.sub g2
      exact xo n f cv dd F3 H2 (g1.trans (g3 : Grow [] F1 H1 F3 H2).weak) (w1.grow g3) hx hc) xo
theorem ew_callPO (hF : Fm C) (hp : Γ[i]? = some .pool) (h : AwO A C (fun _ => e) ts Γ l) : Ew A C (fun _ => e) (tCall (spP A Fm Wf) [] e (tCons (tVar i) ts)) Γ (fun P X => l (fun ds => Wf ds (fun d => noLW d P) X) X) := fun P X hm B F H σ wd g Q q xo =>
  ⟨_, g.ok i _ hp, h _ X hm B F H σ wd g _ (fun vs F1 H1 Fo ds g1 w1 s1 wo ex h1 r1 => by
    have wd3 : ∀ {F2 F3 H2 : Hp}, Wd C F2 H2 → Grow C.S F1 H1 F3 H2 → (∀ a, F2 a = none → F3 a = none) → Wd C F3 H2 := fun w2 g3 hn => ⟨g3.fh, w2.pi, fun a ha => hn a (w2.sF a ha), w2.sH⟩
    refine ⟨C, Fo, vs, ds, _, X, hF, by rw [List.append_nil], wo, r1, h1, fun d v F2 H2 pd g2 w2 r2 => ?_, fun n f cv dd F2 H2 g2 w2 hx hc => ?_⟩
    · obtain ⟨F3, g3, ht, hn⟩ := less_grow s1 w1.sub g2
      exact q v F3 H2 d (g1.trans g3) (wd3 w2 g3 hn) pd.2 (r2.less (fun a xs => ht a xs ex) pd.1)
    · obtain ⟨F3, g3, ht, hn⟩ := less_grow s1 w1.sub g2
      exact xo n f cv dd F3 H2 (g1.trans g3) (wd3 w2 g3 hn) hx hc) xo⟩
end
end Eh

namespace Eh
open PySem PySem.Spec PyProof.Rows L2
variable {A : Str → Addr} {C : Pc} {E : L2.St → XK} {Γ Γ' : List Sl} {K : PySem.W.Frag} {w : World}
/-! ### sorted(ints), l.index(x) -/
def rSortedA (K : PySem.W.Frag) : List V → Hp → VK → Prop := rSortedI K
theorem cSorted {X : Cx} : CallR X (.builtin "sorted") (rSortedA X.K) := cr_sortedI
def sortW (xs : List PyData) (k : List PyData → Prop) : Prop := ∃ ns : List Int, xs = ns.map .int ∧ ∀ ms : List Int, ms.Perm ns → ms.Pairwise (· ≤ ·) → k (ms.map .int)
def idxW (xs : List PyData) (d : PyData) (k : DP) : Prop := SeqAt.shaped (.list xs) = true ∧ SeqAt.shaped d = true ∧ ∃ j z, xs[j]? = some z ∧ PyData.eqv z d = true ∧ (∀ m z', m < j → xs[m]? = some z' → PyData.eqv z' d = false) ∧ k (.int (j : Nat))
section
variable {te ta tb tc : TE} {tt tu : TT} {ts : TA} {m ma mb mc : WD} {l la lb : WL} {mt mu : WT} {d : PyData} {ds : List PyData} {i : Nat}
theorem nw_sorted (h : Lw A C E ta Γ l) : Nw A C E (tCB (rSortedA K) (tCons ta tNil)) Γ (fun P X => l (fun xs => sortW xs P) X) :=
  fun P X hm B F H σ wd g Q q xo => h _ X hm B F H σ wd g _ (fun v F1 H1 xs g1 w1 ⟨ns, e1, hk⟩ ⟨p, vs, e, n, hl, ra⟩ => by
    subst e e1
    refine ⟨p, ns, rfl, SqL.of (by rw [hl, ra.ints]), fun ns' b hp hs hb => ?_⟩
    exact q _ F1 _ _ (g1.trans (.newM g1.fh hb)) (newM_wd w1 hb) (hk ns' hp hs) ⟨b, _, rfl, g1.fresh hb, g1.fh.none hb, fun z => w1.sH b z hb, upd_same, .of_ints _⟩) xo
theorem ew_index (ha : Lw A C E ta Γ l) (hb : Ew A C E tb Γ mb) : Ew A C E (tBM K "list" (rIndexD K) ta (tCons tb tNil)) Γ (fun P X => l (fun xs => mb (fun d => idxW xs d P) X) X) :=
  fun P X hm B F H σ wd g Q q xo => ha _ X hm B F H σ wd g _ (fun v F1 H1 xs g1 w1 h1 ⟨p, vs, e, n, hl, ra⟩ => by
    subst e
    refine ⟨.inl ⟨rfl, vs, SqL.of hl⟩, hb _ X h1 B F1 H1 σ w1 (g.grow g1) _ (fun u F2 H2 d g2 w2 h2 r2 => ?_) (xo.go g1)⟩
    obtain ⟨s1, s2, j, z, hz, he, hno, hk⟩ := h2
    exact ⟨p, u, d, xs, j, z, rfl, rfl, .lst (SqL.of (g2.hh _ _ n hl)) ((ra.mono g2.ff).mono g2.fh).dp, (r2.mono g2.fh).dp, s1, s2, hz, he, hno, q _ F2 H2 _ (g1.trans g2) w2 hk (.int _)⟩) xo
end
/-! ### try, except J as e -/
def subX (n m : Str) : Bool := n == m || m == "JointError"
structure XF (A : Str → Addr) (K : PySem.W.Frag) (xn : List Str) : Prop where
  exc : ∀ n ∈ xn, ExcC K (A n)
  kit : ∀ n ∈ xn, ∀ m ∈ xn, PySem.W.kitOne K (.ref (A n)) (.ref (A m)) = some (subX n m)
  ve : ∀ n ∈ xn, PySem.W.kitOne K (.ref (A n)) (.type "ValueError") = some true
  exm : ∀ n ∈ xn, ∀ m ∈ xn, PySem.W.exmOne K (.ref (A n)) (.ref (A m)) = some (subX n m)
def xfAll (A : Str → Addr) (K : PySem.W.Frag) (xn : List Str) : Bool :=
  xn.all fun n => excCB K (A n) && (kitNB K (A n) (.type "ValueError") true && xn.all fun m => kitNB K (A n) (.ref (A m)) (subX n m) && exmNB K (A n) (A m) (subX n m))
theorem xfAll_ok {xn : List Str} (h : xfAll A K xn = true) : XF A K xn := by
  unfold xfAll at h
  rw [List.all_eq_true] at h
  have h' : ∀ n ∈ xn, excCB K (A n) = true ∧ kitNB K (A n) (.type "ValueError") true = true ∧ ∀ m ∈ xn, kitNB K (A n) (.ref (A m)) (subX n m) = true ∧ exmNB K (A n) (A m) (subX n m) = true := fun n hn => by
    have z := h n hn
    rw [Bool.and_eq_true, Bool.and_eq_true, List.all_eq_true] at z
    exact ⟨z.1, z.2.1, fun m hm => by have y := z.2.2 m hm; rwa [Bool.and_eq_true] at y⟩
  exact ⟨fun n hn => excCB_ok (h' n hn).1, fun n hn m hm => of_decide_eq_true ((h' n hn).2.2 m hm).1, fun n hn => of_decide_eq_true (h' n hn).2.1, fun n hn m hm => of_decide_eq_true ((h' n hn).2.2 m hm).2⟩
def catchW (xn : List Str) (n J : Str) (p q : Prop) : Prop := n ∈ xn ∧ J ∈ xn ∧ iteW (subX n J) p q
def isXW (xn : List Str) (n X : Str) (k : DP) : Prop := n ∈ xn ∧ X ∈ xn ∧ k (.bool (subX n X))
def isVW (xn : List Str) (n : Str) (k : DP) : Prop := n ∈ xn ∧ k (.bool true)
section
variable {B F0 : Hp} {D : Ends} {i : Nat} {a : Addr} {n X J : Str} {xn : List Str} {e : XK} {er : XP} {Hf : Str → Prop} {g : XP → Prop} {ts : Addr → Value → Option Addr → TS} {tb : WX → TS}
theorem ew_isX (fx : XF A K xn) (hi : Γ[i]? = some (.ref a)) : Ew A C E (tCB (rIsX K a (.ref (A n)) none) (tCons (tVar i) (tCons (tC (.ref (A X))) tNil))) Γ (fun P _ => isXW xn n X P) :=
  fun P Y ⟨h1, h2, hm⟩ B F H σ wd gm Q q xo => ew_d (A := A) (C := C) (E := E) (ev_isXr hi (fx.exc n h1) (fx.kit n h1 X h2)) P Y hm B F H σ wd gm Q q xo
theorem ew_isV (fx : XF A K xn) (hi : Γ[i]? = some (.ref a)) : Ew A C E (tCB (rIsX K a (.ref (A n)) none) (tCons (tVar i) (tCons (tC (.ty "ValueError")) tNil))) Γ (fun P _ => isVW xn n P) :=
  fun P Y ⟨h1, hm⟩ B F H σ wd gm Q q xo => ew_d (A := A) (C := C) (E := E) (ev_isXt hi (fx.exc n h1) (fx.ve n h1)) P Y hm B F H σ wd gm Q q xo
theorem aw_try (fx : XF A K xn) (hx : RaiseW A C B F0 e er) (h : joinW g (fun n f => catchW xn n J (f = none ∧ Hf n) (er n f)))
    (hb : ∀ xr W, RaiseT A C B F0 Γ (WE W) xr → g xr → At C B F0 Γ (tb W D))
    (hs : ∀ n a D', D'.rt = D.rt → Hf n → At C B F0 (Γ.set i (.ref a)) (ts a (.ref (A n)) none D')) :
    At C B F0 Γ (tTryAs K (.ref (A J)) i ts (fun cls d _ H => e cls d H) tb D) := by
  refine hb _ (wAs K (.ref (A J)) i ts (fun cls d _ H => e cls d H) D) (fun F H σ cv dd n f w gr gm hxx hc => ?_) h
  obtain ⟨h1, h2, h3⟩ := hxx
  have hm := fx.exm n h1 J h2
  cases hsub : subX n J with
  | true =>
    rw [hsub] at h3 hm
    obtain ⟨rfl, hH⟩ : f = none ∧ Hf n := h3
    obtain ⟨rfl, hd⟩ := hc
    have hd' : dd = none := hd
    subst hd'
    exact ⟨true, hm, fun _ a ha => hs n a { nx := fun σ' H' => D.nx (σ'.set i none) H', rt := D.rt, bk := fun σ' H' => D.bk (σ'.set i none) H', ct := fun σ' H' => D.ct (σ'.set i none) H' } rfl hH F H _ w gr (gm.set (s := .ref a) rfl fun _ z => nomatch z), fun z => nomatch z⟩
  | false =>
    rw [hsub] at h3 hm
    have h3' : er n f := h3
    have e1 : cv = .ref (A n) := hc.1
    refine ⟨false, by rw [e1]; exact hm, (fun z => nomatch z), fun _ => ?_⟩
    exact hx F H cv dd n f w gr h3' hc
end
end Eh

namespace Eh
open PySem PySem.Spec PyProof.Rows L2
/-! ### a comprehension with two clauses -/
abbrev In2 := List PyData → (PyData → DP → Prop → Prop) → Prop
def lc2Go (body : PyData → In2 → Prop → Prop) : List PyData → (List PyData → Prop) → Prop
  | [], k => k []
  | x :: xs, k => body x (fun ys b2 => ys.length ≤ 1000 ∧ lcGo b2 ys fun l => lc2Go body xs fun l' => k (l ++ l')) (lc2Go body xs k)
def lc2W (items : List PyData) (body : PyData → In2 → Prop → Prop) (k : List PyData → Prop) : Prop := items.length ≤ 100 ∧ lc2Go body items k
variable {A : Str → Addr} {C : Pc} {E : L2.St → XK} {Γ Γ' : List Sl} {K : PySem.W.Frag} {w : World}
/-- slots that the heap does not matter for -/
def litB : List Sl → Bool | [] => true | .own _ :: _ => false | .fz _ _ _ :: _ => false | _ :: r => litB r
theorem lit_ok : ∀ {Γ : List Sl}, litB Γ = true → ∀ s ∈ Γ, (∀ ds, s ≠ .own ds) ∧ ∀ K a xs, s ≠ .fz K a xs
  | [], _, s, hs => absurd hs List.not_mem_nil
  | .own _ :: _, h, _, _ => nomatch h
  | .fz _ _ _ :: _, h, _, _ => nomatch h
  | .no :: Γ, h, s, hs => (List.mem_cons.mp hs).elim (fun e => by subst e; exact ⟨(fun _ z => nomatch z), (fun _ _ _ z => nomatch z)⟩) fun hs => lit_ok (Γ := Γ) h s hs
  | .dat _ :: Γ, h, s, hs => (List.mem_cons.mp hs).elim (fun e => by subst e; exact ⟨(fun _ z => nomatch z), (fun _ _ _ z => nomatch z)⟩) fun hs => lit_ok (Γ := Γ) h s hs
  | .pool :: Γ, h, s, hs => (List.mem_cons.mp hs).elim (fun e => by subst e; exact ⟨(fun _ z => nomatch z), (fun _ _ _ z => nomatch z)⟩) fun hs => lit_ok (Γ := Γ) h s hs
  | .ref _ :: Γ, h, s, hs => (List.mem_cons.mp hs).elim (fun e => by subst e; exact ⟨(fun _ z => nomatch z), (fun _ _ _ z => nomatch z)⟩) fun hs => lit_ok (Γ := Γ) h s hs
theorem Gm.lit {B F H H' : Hp} {σ : L2.St} (e : Gm C B F H σ Γ) (h : litB Γ = true) : Gm C B F H' σ Γ :=
  ⟨e.len, fun i s es => by
    have k := e.ok i s es
    have l := lit_ok h s (List.mem_of_getElem? es)
    cases s with
    | no => trivial
    | dat d => exact k
    | own ds => exact absurd rfl (l.1 ds)
    | pool => exact k
    | fz K a xs => exact absurd rfl (l.2 K a xs)
    | ref a => exact k, e.inj⟩
section
variable {te : TE} {tt tt1 : TT} {l : WL}
theorem nw_lc2 {wi wi1 : TI} {g g1 : TG} {vs vs1 : List Nat} {body : PyData → In2 → Prop → Prop} (hi : Iw A C E wi Γ l)
    (hb : ∀ x Y N, body x Y N → ∃ Γx Γi mt m1 b2, TgD g vs (wipeG Γ vs) x Γx ∧ Tw A C (fun _ => E0) tt Γx mt ∧ Fw A C (fun _ => E0) wi1 Γx m1 ∧ mt (fun b => iteW b (m1 (fun ys => Y ys b2) noX) N) noX ∧ Wk Γx Γi ∧ litB Γi = true ∧
      ∀ y Y1 N1, b2 y Y1 N1 → ∃ Γy mt1 me, TgD g1 vs1 (wipeG Γi vs1) y Γy ∧ Tw A C (fun _ => E0) tt1 Γy mt1 ∧ Ew A C (fun _ => E0) te Γy me ∧ mt1 (fun b => iteW b (me Y1 noX) N1) noX) :
    Nw A C E (tLc2 wi g tt wi1 g1 tt1 te vs vs1) Γ (fun P X => l (fun items => lc2W items body P) X) := fun P X hm B F H σ wd gm Q q xo =>
  hi _ X hm B F H σ wd gm _ (fun J F1 H1 xs g1' w1 hP wk D hD => by
    obtain ⟨hz, hgo⟩ := hP
    have e1 := gm.grow g1'
    have nS : D ∉ C.S := fun z => w1.sH D z hD
    have nox : ∀ F H, XOk A C F H E0 noX := fun _ _ _ _ _ _ _ _ _ _ z => z.elim
    have mv : ∀ {F' H' : Hp} {acc : List V}, Grow C.S F1 H1 F' H' → F' D = none → H1 D = none → Grow C.S F1 H1 F' (upd H' D (.lst acc)) := fun {F' H' acc} gg f3 hD =>
      ⟨gg.ff, fun a o e => by
        have z : a ≠ D := fun z => by subst z; rw [f3] at e; cases e
        rw [upd_ne z]; exact gg.fh a o e, fun a o n e => by
        have z : a ≠ D := fun z => by subst z; rw [hD] at e; cases e
        rw [upd_ne z]; exact gg.hh a o n e, fun a e => upd_th (gg.th a e), gg.nw⟩
    let St1 : Hp → List PyData → Prop := fun H' ds => ∃ F' acc, Grow C.S F1 H1 F' H' ∧ Wd C F' H' ∧ F' D = none ∧ H' D = some (.lst acc) ∧ RpAll F' acc ds
    refine ⟨fun i m H' => i + m = xs.length ∧ ∃ ds, St1 H' ds ∧ ds.length ≤ i * 1000 ∧ lc2Go body (xs.drop i) fun l => P (ds ++ l),
      ⟨xs.length, by omega, [], ⟨F1, [], .newM g1'.fh hD, w1.grow (.newM g1'.fh hD), g1'.fh.none hD, upd_same, .nil⟩, Nat.zero_le _, hgo⟩, fun i m H' ⟨hm, ds, ⟨F', acc, g2, w2, hF, hH, ra⟩, hle, gen⟩ => ?_⟩
    by_cases hlt : i < xs.length
    · refine .inr ?_
      obtain ⟨x, hx⟩ : ∃ x, xs[i]? = some x := ⟨_, List.getElem?_eq_getElem hlt⟩
      have hdr : xs.drop i = x :: xs.drop (i + 1) := by
        rw [← (List.getElem?_eq_some_iff.mp hx).2, List.getElem_cons_drop]
      rw [hdr] at gen
      obtain ⟨Γx, Γi, mt, m1, b2, hg, ht, hi1, hmt, hwk, hlit, hin⟩ := hb x _ _ gen
      obtain ⟨go, yl⟩ := (wk F' H' g2).1 i x hx
      refine ⟨go, fun H'' => ∃ ds, St1 H'' ds ∧ ds.length ≤ (i + 1) * 1000 ∧ lc2Go body (xs.drop (i + 1)) fun l => P (ds ++ l), fun H'' h'' => ⟨m - 1, by omega, by omega, h''⟩, fun v H'' y => ?_⟩
      obtain ⟨F'', g3, rv⟩ := yl v H'' y
      have g23 := g2.trans g3.weak
      have dF : F'' D = none := g3.nw D (by rw [hH]; exact fun z => nomatch z) hF
      refine hg C B F'' H'' (L2.wipe σ vs) v g3.fh ((e1.grow g23).wipe vs) rv _ fun σ' e2 hw => ⟨hw.trans (wipe_wipe σ vs), ?_⟩
      refine ht _ noX hmt B F'' H'' σ' (w2.grow g3) e2 _ (fun b F3 H3 g4 w4 pb => ?_) (nox _ _)
      have d3 : H3 D = some (.lst acc) := g4.hh _ _ nS (g3.sub _ _ hH)
      have f3 : F3 D = none := g4.nw D (by rw [g3.sub _ _ hH]; exact fun z => nomatch z) dF
      have ra3 := (ra.mono g3.ff).mono g4.ff
      have g34 := g23.trans g4
      cases b with
      | false =>
        rw [if_neg Bool.false_ne_true]
        exact ⟨ds, ⟨F3, acc, g34, w4, f3, d3, ra3⟩, by omega, pb⟩
      | true =>
        rw [if_pos rfl]
        have e4 := e2.grow g4
        refine hi1 _ noX pb B F3 H3 σ' w4 e4 _ (fun J1 F5 H5 ys g5 w5 hY wk1 => ?_) (nox _ _)
        obtain ⟨hy1000, hgo1⟩ := hY
        have d5 : H5 D = some (.lst acc) := g5.hh _ _ nS d3
        have f5 : F5 D = none := g5.nw D (by rw [d3]; exact fun z => nomatch z) f3
        have g35 := g34.trans g5
        refine ⟨fun j k H6 => j + k = ys.length ∧ ∃ F6 acc6 es, Grow C.S F1 H1 F6 H6 ∧ Wd C F6 H6 ∧ Sub F5 F6 ∧ F6 D = none ∧ H6 D = some (.lst acc6) ∧ RpAll F6 acc6 (ds ++ es) ∧ es.length ≤ j ∧ Gm C B F6 H6 σ' Γi ∧
            lcGo b2 (ys.drop j) fun l => lc2Go body (xs.drop (i + 1)) fun l' => P (ds ++ (es ++ l ++ l')),
          ⟨ys.length, by omega, F5, acc, [], g35, w5, .refl F5, f5, d5, by rw [List.append_nil]; exact ra3.mono g5.ff, Nat.le_refl _, (e4.grow g5).wk hwk, hgo1⟩, fun j k H6 ⟨hjk, F6, acc6, es, g6, w6, s6, f6, d6, ra6, hle6, e6, gen6⟩ => ?_⟩
        by_cases hjl : j < ys.length
        · refine .inr ?_
          obtain ⟨y, hy⟩ : ∃ y, ys[j]? = some y := ⟨_, List.getElem?_eq_getElem hjl⟩
          have hdr6 : ys.drop j = y :: ys.drop (j + 1) := by
            rw [← (List.getElem?_eq_some_iff.mp hy).2, List.getElem_cons_drop]
          rw [hdr6] at gen6
          obtain ⟨Γy, mt1, me, hg1, ht1, he1, hmt1⟩ := hin y _ _ gen6
          obtain ⟨go6, yl6⟩ := (wk1 F6 H6 s6 w6.sub).1 j y hy
          refine ⟨go6, fun H8 => ∃ F8 acc8 es8, Grow C.S F1 H1 F8 H8 ∧ Wd C F8 H8 ∧ Sub F5 F8 ∧ F8 D = none ∧ H8 D = some (.lst acc8) ∧ RpAll F8 acc8 (ds ++ es8) ∧ es8.length ≤ j + 1 ∧ Gm C B F8 H8 σ' Γi ∧
            lcGo b2 (ys.drop (j + 1)) fun l => lc2Go body (xs.drop (i + 1)) fun l' => P (ds ++ (es8 ++ l ++ l')), fun H8 h8 => ⟨k - 1, by omega, by omega, h8⟩, fun v6 H8 y8 => ?_⟩
          obtain ⟨F8, g8, rv8⟩ := yl6 v6 H8 y8
          have g68 := g6.trans g8.weak
          have d8 : H8 D = some (.lst acc6) := g8.sub _ _ d6
          have f8 : F8 D = none := g8.nw D (by rw [d6]; exact fun z => nomatch z) f6
          refine hg1 C B F8 H8 (L2.wipe σ' vs1) v6 g8.fh ((e6.grow g8.weak).wipe vs1) rv8 _ fun σ3 e8 hw3 => ⟨hw3.trans (wipe_wipe σ' vs1), ?_⟩
          refine ht1 _ noX hmt1 B F8 H8 σ3 (w6.grow g8) e8 _ (fun b1 F9 H9 g9 w9 pb1 => ?_) (nox _ _)
          have d9 : H9 D = some (.lst acc6) := g9.hh _ _ nS d8
          have f9 : F9 D = none := g9.nw D (by rw [d8]; exact fun z => nomatch z) f8
          have e9 := (e6.grow g8.weak).grow g9
          cases b1 with
          | false =>
            rw [if_neg Bool.false_ne_true]
            exact ⟨F9, acc6, es, g68.trans g9, w9, (s6.trans g8.ff).trans g9.ff, f9, d9, (ra6.mono g8.ff).mono g9.ff, Nat.le_succ_of_le hle6, e9, pb1⟩
          | true =>
            rw [if_pos rfl]
            refine he1 _ noX pb1 B F9 H9 σ3 w9 (e8.grow g9) _ (fun u F10 H10 d g10 w10 pd ru => ?_) (nox _ _)
            have d10 : H10 D = some (.lst acc6) := g10.hh _ _ nS d9
            have f10 : F10 D = none := g10.nw D (by rw [d9]; exact fun z => nomatch z) f9
            have ra10 := ((ra6.mono g8.ff).mono g9.ff).mono g10.ff
            have e10 := e9.grow g10
            refine ⟨acc6, d10, ?_, F10, acc6 ++ [u], es ++ [d], mv ((g68.trans g9).trans g10) f10 hD, w10.mut nS f10, ((s6.trans g8.ff).trans g9.ff).trans g10.ff, f10, upd_same, ?_, by rw [List.length_append]; exact Nat.succ_le_succ hle6, ?_, ?_⟩
            · rw [ra10.length, List.length_append]
              have h1 : ds.length + es.length ≤ i * 1000 + j := Nat.add_le_add hle hle6
              have h2 : i * 1000 + j < 100 * 1000 := by omega
              exact Nat.lt_of_lt_of_le (Nat.lt_of_le_of_lt h1 h2) (by decide)
            · rw [← List.append_assoc]; exact ra10.append (.one ru)
            · exact e10.lit hlit
            · have e : (fun l => lc2Go body (xs.drop (i + 1)) fun l' => P (ds ++ (es ++ [d] ++ l ++ l'))) = fun l => lc2Go body (xs.drop (i + 1)) fun l' => P (ds ++ (es ++ (d :: l) ++ l')) := funext fun l => by
                congr 1; funext l'; rw [List.append_assoc es [d] l]; rfl
              rw [e]; exact pd
        · refine .inl ?_
          have ej : j = ys.length := by omega
          subst ej
          refine ⟨(wk1 F6 H6 s6 w6.sub).2, ds ++ es, ⟨F6, acc6, g6, w6, f6, d6, ra6⟩, by rw [List.length_append]; omega, ?_⟩
          rw [List.drop_length] at gen6
          have gen7 : lc2Go body (xs.drop (i + 1)) fun l' => P (ds ++ (es ++ [] ++ l')) := gen6
          have e : (fun l' => P (ds ++ (es ++ [] ++ l'))) = fun l' => P (ds ++ es ++ l') := funext fun l' => by rw [List.append_nil, List.append_assoc]
          rw [e] at gen7; exact gen7
    · refine .inl ?_
      have ei : i = xs.length := by omega
      subst ei
      refine ⟨(wk F' H' g2).2, ?_⟩
      rw [List.drop_length] at gen
      have gen2 : P (ds ++ []) := gen
      rw [List.append_nil] at gen2
      exact q _ F' H' _ (g1'.trans g2) w2 gen2 ⟨D, acc, rfl, g1'.fresh' hD, hF, nS, hH, ra⟩) xo
end
section
variable {te ta tb : TE} {ts : TA} {m ma mb : WD} {l : WL} {i : Nat} {Wn : List PyData → WL} {e : XK} {Fm : Pc → Prop}
def rgL2W (x y : PyData) (k : List PyData → Prop) : Prop := match x, y with | .int i, .int j => 0 ≤ i ∧ i ≤ 100000 ∧ 0 ≤ j ∧ j ≤ 100000 ∧ k (rgIJ i j) | _, _ => False
theorem ew_tupRg2 (ha : Ew A C E ta Γ ma) (hb : Ew A C E tb Γ mb) : Ew A C E (tTupRg (tRg2 ta tb)) Γ (fun P X => ma (fun x => mb (fun y => rgL2W x y fun xs => tupW xs P) X) X) := fun P X hm B F H σ wd g Q q xo =>
  ha _ X hm B F H σ wd g _ (fun v F1 H1 x g1 w1 h1 r1 => hb _ X h1 B F1 H1 σ w1 (g.grow g1) _ (fun u F2 H2 y g2 w2 h2 r2 => by
    unfold rgL2W at h2
    split at h2
    · rename_i i j
      obtain ⟨k1, k2, k3, k4, k5⟩ := h2
      refine ⟨i, j, Rp.int_inv r1, Rp.int_inv r2, RgOk.of_le (by omega) (by omega) (by omega) (by omega), fun p hp => ?_⟩
      have gn : Grow [] F2 H2 (upd F2 p (.tup (rgV i j))) (upd H2 p (.tup (rgV i j))) := .new g2.fh hp
      exact q _ _ _ _ ((g1.trans g2).trans gn.weak) (w2.grow gn) k5 (.tup upd_same (rpRg _ i j))
    · exact h2.elim) (xo.go g1)) xo
theorem nw_rg2 (ha : Ew A C E ta Γ ma) (hb : Ew A C E tb Γ mb) : Nw A C E (tLstRg (tRg2 ta tb)) Γ (fun P X => ma (fun x => mb (fun y => rgL2W x y P) X) X) := fun P X hm B F H σ wd g Q q xo =>
  ha _ X hm B F H σ wd g _ (fun v F1 H1 x g1 w1 h1 r1 => hb _ X h1 B F1 H1 σ w1 (g.grow g1) _ (fun u F2 H2 y g2 w2 h2 r2 => by
    unfold rgL2W at h2
    split at h2
    · rename_i i j
      obtain ⟨k1, k2, k3, k4, k5⟩ := h2
      refine ⟨i, j, Rp.int_inv r1, Rp.int_inv r2, RgOk.of_le (by omega) (by omega) (by omega) (by omega), fun p hp => ?_⟩
      exact q _ F2 _ _ ((g1.trans g2).trans (.newM g2.fh hp)) (newM_wd w2 hp) k5 ⟨p, _, rfl, (g1.trans g2).fresh hp, g2.fh.none hp, fun z => w2.sH p z hp, upd_same, rpRg F2 i j⟩
    · exact h2.elim) (xo.go g1)) xo
/-- own lists handed to a def that hands back a new list, with no list in it -/
def noLsW (ds : List PyData) (k : List PyData → Prop) : Prop := noLists ds = true ∧ k ds
theorem nw_callO (h : AwO A C (fun _ => e) ts Γ l) : Nw A C (fun _ => e) (tCall (spFN A Wn) [] e ts) Γ (fun P X => l (fun ds => Wn ds (fun d => noLsW d P) X) X) := fun P X hm B F H σ wd g Q q xo =>
  h _ X hm B F H σ wd g _ (fun vs F1 H1 Fo ds g1 w1 s1 wo ex h1 r1 => by
    refine ⟨Fo, ds, _, X, wo.sub, by rw [List.append_nil]; exact r1, h1, fun es p us F2 H2 pd g2 hn hf hl r2 => ?_, fun n f cv dd F2 H2 g2 _ hx hc => ?_⟩
    · obtain ⟨F3, g3, ht, hnn⟩ := less_grow s1 w1.sub g2
      exact q _ F3 H2 es (g1.trans g3.weak) (w1.grow g3) pd.2 ⟨p, us, rfl, g1.fresh hn, hnn p hf, fun z => w1.sH p z hn, hl, r2.less (fun a xs => ht a xs ex) pd.1⟩
    · obtain ⟨F3, g3, ht, _⟩ := less_grow s1 w1.sub g2
      exact xo n f cv dd F3 H2 (g1.trans (g3 : Grow [] F1 H1 F3 H2).weak) (w1.grow g3) hx hc) xo
theorem nw_callPO (hF : Fm C) (hp : Γ[i]? = some .pool) (h : AwO A C (fun _ => e) ts Γ l) : Nw A C (fun _ => e) (tCall (spPN A Fm Wn) [] e (tCons (tVar i) ts)) Γ (fun P X => l (fun ds => Wn ds (fun d => noLsW d P) X) X) := fun P X hm B F H σ wd g Q q xo =>
  ⟨_, g.ok i _ hp, h _ X hm B F H σ wd g _ (fun vs F1 H1 Fo ds g1 w1 s1 wo ex h1 r1 => by
    have wd3 : ∀ {F2 F3 H2 : Hp}, Wd C F2 H2 → Grow C.S F1 H1 F3 H2 → (∀ a, F2 a = none → F3 a = none) → Wd C F3 H2 := fun w2 g3 hn => ⟨g3.fh, w2.pi, fun a ha => hn a (w2.sF a ha), w2.sH⟩
    refine ⟨C, Fo, vs, ds, _, X, hF, by rw [List.append_nil], wo, r1, h1, fun es p us F2 H2 pd g2 w2 hn hf hs hl r2 => ?_, fun n f cv dd F2 H2 g2 w2 hx hc => ?_⟩
    · obtain ⟨F3, g3, ht, hnn⟩ := less_grow s1 w1.sub g2
      exact q _ F3 H2 es (g1.trans g3) (wd3 w2 g3 hnn) pd.2 ⟨p, us, rfl, g1.fresh hn, hnn p hf, hs, hl, r2.less (fun a xs => ht a xs ex) pd.1⟩
    · obtain ⟨F3, g3, ht, hn⟩ := less_grow s1 w1.sub g2
      exact xo n f cv dd F3 H2 (g1.trans g3) (wd3 w2 g3 hn) hx hc) xo⟩
/-- an expression read with an own list standing for a while -/
theorem ew_sh (i : Nat) (hi : Γ[i]? = some (.own ds)) (ha : Ew A C E te (Γ.set i (.dat (.list ds))) m) : Ew A C E te Γ (fun P X => m (fun d => noLW d P) X) := fun P X hm B F H σ wd e Q q xo => by
  obtain ⟨p, vs, e1, hl, hf, hb, hs, r⟩ := e.ok i _ hi
  have il : i < Γ.length := (List.getElem?_eq_some_iff.mp hi).1
  have sF : Sub F (upd F p (.lst vs)) := Sub.new hf
  have exo : ∀ a o, upd F p (.lst vs) a = some o → F a = some o ∨ ∃ us, o = .lst us := fun a o ea => by
    by_cases z : a = p
    · subst z; rw [upd_same] at ea; cases ea; exact .inr ⟨_, rfl⟩
    · rw [upd_ne z] at ea; exact .inl ea
  have e' : Gm C B (upd F p (.lst vs)) H σ (Γ.set i (.dat (.list ds))) := ⟨by rw [List.length_set, e.len], fun j t ej => by
    rw [List.getElem?_set] at ej
    by_cases hj : i = j
    · subst hj
      rw [if_pos rfl, if_pos il] at ej
      cases ej
      exact ⟨_, e1, .lst upd_same (r.mono sF)⟩
    · rw [if_neg hj] at ej
      have k1 := e.ok j t ej
      cases t with
      | no => trivial
      | dat d => obtain ⟨v, a1, a2⟩ := k1; exact ⟨v, a1, a2.mono sF⟩
      | own fs =>
        obtain ⟨q, us, a1, a2, a3, a4, a5, a6⟩ := k1
        have nq : q ≠ p := fun z => hj (e.inj i j ds fs p hi ej e1 (z ▸ a1))
        exact ⟨q, us, a1, a2, by rw [upd_ne nq]; exact a3, a4, a5, a6.mono sF⟩
      | pool => exact k1
      | fz K a xs => exact k1
      | ref a => exact k1, fun j m ds' es' q e2 e3 e4 e5 => by
    have ne : ∀ (m : Nat) (xs : List PyData), (Γ.set i (.dat (.list ds)))[m]? = some (Sl.own xs) → Γ[m]? = some (Sl.own xs) := fun m xs z => by
      rw [List.getElem?_set] at z
      by_cases hm : i = m
      · subst hm; rw [if_pos rfl, if_pos il] at z; cases z
      · rw [if_neg hm] at z; exact z
    exact e.inj j m ds' es' q (ne j ds' e2) (ne m es' e3) e4 e5⟩
  refine ha _ X hm B _ H σ (wd.freeze hs hl hf) e' _ (fun v F2 H2 d g2 w2 pd r2 => ?_) (fun n f cv dd F2 H2 g2 w2 hx hc => ?_)
  · obtain ⟨F3, g3, ht, hn⟩ := less_grow sF wd.sub g2
    exact q v F3 H2 d g3 ⟨g3.fh, w2.pi, fun a ha => hn a (w2.sF a ha), w2.sH⟩ pd.2 (r2.less (fun a xs => ht a xs exo) pd.1)
  · obtain ⟨F3, g3, ht, hn⟩ := less_grow sF wd.sub g2
    exact xo n f cv dd F3 H2 g3 ⟨g3.fh, w2.pi, fun a ha => hn a (w2.sF a ha), w2.sH⟩ hx hc
end
end Eh

/-! zip of two rows of things, each a list or a tuple: by two flags (true: a tuple) -/
namespace Eh
open PySem PySem.Spec PyProof.Rows L2 RZ
def ItB (t : Bool) (h : Heap) (i l : Addr) (k : Nat) : Prop := match t with | true => h.IsTupleIter i l k | false => h.IsListIter i l k
def SqV (t : Bool) (h : Heap) (l : Addr) (xs : Array Value) : Prop := match t with | true => h.IsTuple l xs | false => h.IsList l xs
def SqB (t : Bool) (K : PySem.W.Frag) (H : Hp) (a : Addr) (xs : List V) : Prop := match t with | true => SqT K H a xs | false => SqL K H a xs
def itN (t : Bool) : String := match t with | true => "tuple_iterator" | false => "list_iterator"
theorem ItB.extBut {t : Bool} {h h' : Heap} {a b l : Addr} {i : Nat} (x : ItB t h a l i) (hs : Heap.ExtBut b h h') (hab : a ≠ b) : ItB t h' a l i := by
  cases t
  · exact Heap.IsListIter.extBut x hs hab
  · exact Heap.IsTupleIter.extBut x hs hab
theorem ItB.at {t : Bool} {h h' : Heap} {a l : Addr} {i : Nat} (x : ItB t h a l i) (e : ∀ o, h.get? a = some o → h'.get? a = some o) : ItB t h' a l i := by
  cases t
  · exact Heap.IsListIter.at x e
  · exact Heap.IsTupleIter.at x e
theorem ItB.obj {t : Bool} {h : Heap} {a l : Addr} {i : Nat} (x : ItB t h a l i) : ∃ o, h.get? a = some o ∧ ∀ v, o.data ≠ .cell v := by
  cases t
  · obtain ⟨o, e, _, d⟩ := x; exact ⟨o, e, fun v q => by rw [d] at q; cases q⟩
  · obtain ⟨o, e, _, d⟩ := x; exact ⟨o, e, fun v q => by rw [d] at q; cases q⟩
theorem SqV.extBut {t : Bool} {h h' : Heap} {b l : Addr} {xs : Array Value} (x : SqV t h l xs) (hs : Heap.ExtBut b h h') (hab : l ≠ b) : SqV t h' l xs := by
  cases t
  · exact Heap.IsList.extBut x hs hab
  · exact Heap.IsTuple.extBut x hs hab
section
variable {prog : Program} {w : World} {A : Around} {E : Value → Shared → Prop} {s : Shared} {t1 t2 : Bool}
theorem nextOfB_item {t : Bool} {it l : Addr} {i : Nat} {items : Array Value} {x : Value} {Q : Value → Shared → Prop} (hit : ItB t s.heap it l i)
    (hl : SqV t s.heap l items) (hx : items[i]? = some x)
    (hQ : ∀ h', ItB t h' it l (i + 1) → Heap.SameBut it s.heap h' → Q x { s with heap := h' }) :
    wpAny (model prog w) A (Builtin.SmallTypes.nextOf (.ref it)) Q E s := by
  cases t
  · exact wpAny_nextOf_list_item hit hl hx hQ
  · exact nextOf_tuple_item hit hl hx hQ
theorem nextOfB_end {t : Bool} {it l : Addr} {i : Nat} {items : Array Value} {Q : Value → Shared → Prop} (hh : A.handled = none)
    (hit : ItB t s.heap it l i) (hl : SqV t s.heap l items) (hx : items[i]? = none)
    (hE : ∀ h' e, Heap.ExtBut it s.heap h' → (∃ o, h'.get? e = some o ∧ o.cls = .type "StopIteration") → E (.ref e) { s with heap := h' }) :
    wpAny (model prog w) A (Builtin.SmallTypes.nextOf (.ref it)) Q E s := by
  cases t
  · exact wpAny_nextOf_list_end hh hit hl hx hE
  · exact nextOf_tuple_end hh hit hl hx hE
theorem zipB_next_item {z TI TO i1 i2 l1 l2 : Addr} {k1 k2 : Nat} {xs ys : Array Value} {x y a b : Value} {Q : Value → Shared → Prop} (D : ZipApart z TI TO i1 i2 l1 l2)
    (hz : IsZip s.heap z TI TO .none) (hTI : IsPair s.heap TI (.ref i1) (.ref i2)) (hTO : IsPair s.heap TO a b)
    (h1 : ItB t1 s.heap i1 l1 k1) (h2 : ItB t2 s.heap i2 l2 k2) (hl1 : SqV t1 s.heap l1 xs) (hl2 : SqV t2 s.heap l2 ys) (hx : xs[k1]? = some x) (hy : ys[k2]? = some y)
    (hQ : ∀ h', IsZip h' z TI TO (rawInt s.heap.objs.size) → IsPair h' TO x y → ItB t1 h' i1 l1 (k1 + 1) → ItB t2 h' i2 l2 (k2 + 1) → IsPair h' s.heap.objs.size x y → h'.objs.size = s.heap.objs.size + 1 →
      (∀ c o, c ≠ z → c ≠ TO → c ≠ i1 → c ≠ i2 → s.heap.get? c = some o → h'.get? c = some o) → Q (.ref s.heap.objs.size) { s with heap := h' }) :
    wpAny (model prog w) A (Builtin.«zip.__next__» ⟨[.ref z], []⟩) (fun fin s' => ∃ v, fin = .done (.ret v) ∧ Q v s') E s := by
  show wpAny _ _ (field (.ref z) 2 >>= _) _ _ _
  refine wpAny_bind (wpAny_field hz rfl (x := .bool false) rfl ?_)
  show wpAny _ _ (field (.ref z) 3 >>= _) _ _ _
  refine wpAny_bind (wpAny_field hz rfl (x := .ref TI) rfl ?_)
  refine wpAny_bind (wpAny_seqItems hTI rfl ?_)
  show wpAny _ _ (Builtin.SmallTypes.ownedTupleIsFree (.ref z) >>= _) _ _ _
  refine wpAny_bind ?_
  unfold Builtin.SmallTypes.ownedTupleIsFree
  refine wpAny_bind (wpAny_field hz rfl (x := .none) rfl (wpAny_pure ?_))
  simp only [if_true]
  refine wpAny_bind (wpAny_rule ?_)
  refine wpAny_bind (wpAny_field hz rfl (x := .ref TO) rfl ?_)
  refine wpAny_bind (wpAny_setField_rec hz (by simp) fun h₁ hz₁ hs₁ => ?_)
  replace hz₁ : IsZip h₁ z TI TO .ellipsis := hz₁
  refine wpAny_bind ?_
  simp only [List.zipIdx_cons, List.zipIdx_nil, List.forIn_cons, List.forIn_nil]

  refine wpAny_bind (wpAny_bind (wpAny_onRaise ?_))
  show wpAny _ _ (Builtin.SmallTypes.nextOf (.ref i1) >>= _) _ _ _
  refine wpAny_bind (nextOfB_item (h1.extBut hs₁.extBut D.i1z) (hl1.extBut hs₁.extBut D.l1z) hx fun h₂ h1₂ hs₂ => wpAny_pure ?_)
  have hTO₂ : IsPair h₂ TO a b := hs₂.extBut _ _ D.TOi1 (hs₁.extBut _ _ D.TOz hTO)
  refine wpAny_bind (wpAny_seqItems hTO₂ rfl ?_)
  refine wpAny_bind (wpAny_updateSeq_pair hTO₂ fun h₃ hTO₃ hs₃ => ?_)
  replace hTO₃ : IsPair h₃ TO x b := hTO₃
  refine wpAny_bind (wpAny_letGo (wpAny_pure ?_))

  refine wpAny_bind (wpAny_bind (wpAny_onRaise ?_))
  show wpAny _ _ (Builtin.SmallTypes.nextOf (.ref i2) >>= _) _ _ _
  refine wpAny_bind (nextOfB_item (((h2.extBut hs₁.extBut D.i2z).extBut hs₂.extBut D.i12.symm).extBut hs₃.extBut D.TOi2.symm)
    (((hl2.extBut hs₁.extBut D.l2z).extBut hs₂.extBut D.l2i1).extBut hs₃.extBut D.l2TO) hy fun h₄ h2₄ hs₄ => wpAny_pure ?_)
  have hTO₄ : IsPair h₄ TO x b := hs₄.extBut _ _ D.TOi2 hTO₃
  refine wpAny_bind (wpAny_seqItems hTO₄ rfl ?_)
  refine wpAny_bind (wpAny_updateSeq_pair hTO₄ fun h₅ hTO₅ hs₅ => ?_)
  replace hTO₅ : IsPair h₅ TO x y := hTO₅
  refine wpAny_bind (wpAny_letGo (wpAny_pure (wpAny_pure ?_)))

  refine wpAny_bind (wpAny_seqItems hTO₅ rfl ?_)
  refine wpAny_bind (wpAny_newTuple ?_)
  have hsz : h₅.objs.size = s.heap.objs.size := by rw [hs₅.1, hs₄.1, hs₃.1, hs₂.1, hs₁.1]
  have hz₅ : IsZip h₅ z TI TO .ellipsis := hs₅.extBut _ _ D.TOz.symm (hs₄.extBut _ _ D.i2z.symm (hs₃.extBut _ _ D.TOz.symm (hs₂.extBut _ _ D.i1z.symm hz₁)))
  have hk₅ : ∀ c o, c ≠ z → c ≠ TO → c ≠ i1 → c ≠ i2 → s.heap.get? c = some o → h₅.get? c = some o := fun c o c1 c2 c3 c4 e =>
    hs₅.extBut _ _ c2 (hs₄.extBut _ _ c4 (hs₃.extBut _ _ c2 (hs₂.extBut _ _ c3 (hs₁.extBut _ _ c1 e))))
  have h1₅ : ItB t1 h₅ i1 l1 (k1 + 1) := ((h1₂.extBut hs₃.extBut D.TOi1.symm).extBut hs₄.extBut D.i12).extBut hs₅.extBut D.TOi1.symm
  have h2₅ : ItB t2 h₅ i2 l2 (k2 + 1) := h2₄.extBut hs₅.extBut D.TOi2.symm
  have hzlt : z < h₅.objs.size := Heap.lt_size hz₅
  have hTOlt : TO < h₅.objs.size := Heap.lt_size hTO₅
  have hi1lt : i1 < h₅.objs.size := by obtain ⟨_, e, _⟩ := h1₅.obj; exact Heap.lt_size e
  have hi2lt : i2 < h₅.objs.size := by obtain ⟨_, e, _⟩ := h2₅.obj; exact Heap.lt_size e
  show wpAny _ _ (Builtin.SmallTypes.ownedTupleHandOut (.ref z) (.ref h₅.objs.size) >>= _) _ _ _
  refine wpAny_bind ?_
  unfold Builtin.SmallTypes.ownedTupleHandOut
  have hz₆ : IsZip (h₅.push { cls := .type "tuple", data := .seq #[x, y] }) z TI TO .ellipsis := Heap.get?_push_of_some _ hz₅
  refine wpAny_bind (wpAny_setField_rec hz₆ (by simp) fun h₇ hz₇ hs₇ => ?_)
  replace hz₇ : IsZip h₇ z TI TO (rawInt h₅.objs.size) := hz₇
  refine wpAny_setField_rec hz₇ (by simp) fun h₈ hz₈ hs₈ => ?_
  replace hz₈ : IsZip h₈ z TI TO (rawInt h₅.objs.size) := hz₈
  have up : ∀ c o, c ≠ z → h₅.get? c = some o → h₈.get? c = some o := fun c o c1 e => hs₈.extBut _ _ c1 (hs₇.extBut _ _ c1 (Heap.get?_push_of_some _ e))
  have hT₈ : IsPair h₈ h₅.objs.size x y := hs₈.extBut _ _ (Nat.ne_of_gt hzlt) (hs₇.extBut _ _ (Nat.ne_of_gt hzlt) (Heap.get?_push_size _ rfl))
  have hz8 : h₈.objs.size = h₅.objs.size + 1 := by rw [hs₈.1, hs₇.1, Heap.size_push]
  rw [hsz] at hz₈ hT₈ hz8
  refine wpAny_pure ⟨_, rfl, ?_⟩
  show Q (.ref h₅.objs.size) _
  rw [hsz]
  exact hQ h₈ hz₈ (up _ _ D.TOz hTO₅) (h1₅.at fun o e => up _ o D.i1z e) (h2₅.at fun o e => up _ o D.i2z e) hT₈ hz8 fun c o c1 c2 c3 c4 e => up c o c1 (hk₅ c o c1 c2 c3 c4 e)

theorem zipB_next_end {z TI TO i1 i2 l1 l2 : Addr} {k1 k2 : Nat} {xs ys : Array Value} {a b : Value} {Q : Fin → Shared → Prop} (hh : A.handled = none) (D : ZipApart z TI TO i1 i2 l1 l2)
    (hz : IsZip s.heap z TI TO .none) (hTI : IsPair s.heap TI (.ref i1) (.ref i2)) (hTO : IsPair s.heap TO a b)
    (h1 : ItB t1 s.heap i1 l1 k1) (h2 : ItB t2 s.heap i2 l2 k2) (hl1 : SqV t1 s.heap l1 xs) (hl2 : SqV t2 s.heap l2 ys) (hend : xs[k1]? = none ∨ ys[k2]? = none)
    (hE : ∀ h' e, (∀ c o, c ≠ z → c ≠ TO → c ≠ i1 → c ≠ i2 → s.heap.get? c = some o → h'.get? c = some o) → (∃ o, h'.get? e = some o ∧ o.cls = .type "StopIteration") → E (.ref e) { s with heap := h' }) :
    wpAny (model prog w) A (Builtin.«zip.__next__» ⟨[.ref z], []⟩) Q E s := by
  show wpAny _ _ (field (.ref z) 2 >>= _) _ _ _
  refine wpAny_bind (wpAny_field hz rfl (x := .bool false) rfl ?_)
  show wpAny _ _ (field (.ref z) 3 >>= _) _ _ _
  refine wpAny_bind (wpAny_field hz rfl (x := .ref TI) rfl ?_)
  refine wpAny_bind (wpAny_seqItems hTI rfl ?_)
  show wpAny _ _ (Builtin.SmallTypes.ownedTupleIsFree (.ref z) >>= _) _ _ _
  refine wpAny_bind ?_
  unfold Builtin.SmallTypes.ownedTupleIsFree
  refine wpAny_bind (wpAny_field hz rfl (x := .none) rfl (wpAny_pure ?_))
  simp only [if_true]
  refine wpAny_bind (wpAny_rule ?_)
  refine wpAny_bind (wpAny_field hz rfl (x := .ref TO) rfl ?_)
  refine wpAny_bind (wpAny_setField_rec hz (by simp) fun h₁ hz₁ hs₁ => ?_)
  replace hz₁ : IsZip h₁ z TI TO .ellipsis := hz₁
  refine wpAny_bind ?_
  simp only [List.zipIdx_cons, List.zipIdx_nil, List.forIn_cons, List.forIn_nil]
  refine wpAny_bind (wpAny_bind (wpAny_onRaise ?_))
  show wpAny _ _ (Builtin.SmallTypes.nextOf (.ref i1) >>= _) _ _ _
  cases hx : xs[k1]? with
  | none =>
    refine wpAny_bind (nextOfB_end hh (h1.extBut hs₁.extBut D.i1z) (hl1.extBut hs₁.extBut D.l1z) hx fun h₂ e hs₂ he => ?_)
    obtain ⟨oe, hoe, hce⟩ := he
    have hz₂ : IsZip h₂ z TI TO .ellipsis := hs₂ _ _ D.i1z.symm hz₁
    have hez : e ≠ z := fun x => by subst x; rw [hz₂] at hoe; cases hoe; simp at hce
    refine wpAny_setField_rec hz₂ (by simp) fun h₃ _ hs₃ => hE h₃ e (fun c o c1 _ c3 _ x => hs₃.extBut _ _ c1 (hs₂ _ _ c3 (hs₁.extBut _ _ c1 x))) ⟨oe, hs₃.extBut _ _ hez hoe, hce⟩
  | some x =>
    have hy : ys[k2]? = none := by rcases hend with h | h; rw [hx] at h; cases h; exact h
    refine wpAny_bind (nextOfB_item (h1.extBut hs₁.extBut D.i1z) (hl1.extBut hs₁.extBut D.l1z) hx fun h₂ h1₂ hs₂ => wpAny_pure ?_)
    have hTO₂ : IsPair h₂ TO a b := hs₂.extBut _ _ D.TOi1 (hs₁.extBut _ _ D.TOz hTO)
    refine wpAny_bind (wpAny_seqItems hTO₂ rfl ?_)
    refine wpAny_bind (wpAny_updateSeq_pair hTO₂ fun h₃ hTO₃ hs₃ => ?_)
    refine wpAny_bind (wpAny_letGo (wpAny_pure ?_))
    refine wpAny_bind (wpAny_bind (wpAny_onRaise ?_))
    show wpAny _ _ (Builtin.SmallTypes.nextOf (.ref i2) >>= _) _ _ _
    refine wpAny_bind (nextOfB_end hh (((h2.extBut hs₁.extBut D.i2z).extBut hs₂.extBut D.i12.symm).extBut hs₃.extBut D.TOi2.symm)
      (((hl2.extBut hs₁.extBut D.l2z).extBut hs₂.extBut D.l2i1).extBut hs₃.extBut D.l2TO) hy fun h₄ e hs₄ he => ?_)
    obtain ⟨oe, hoe, hce⟩ := he
    have hz₄ : IsZip h₄ z TI TO .ellipsis := hs₄ _ _ D.i2z.symm (hs₃.extBut _ _ D.TOz.symm (hs₂.extBut _ _ D.i1z.symm hz₁))
    have hez : e ≠ z := fun x => by subst x; rw [hz₄] at hoe; cases hoe; simp at hce
    refine wpAny_setField_rec hz₄ (by simp) fun h₅ _ hs₅ => hE h₅ e (fun c o c1 c2 c3 c4 x => hs₅.extBut _ _ c1 (hs₄ _ _ c4 (hs₃.extBut _ _ c2 (hs₂.extBut _ _ c3 (hs₁.extBut _ _ c1 x))))) ⟨oe, hs₅.extBut _ _ hez hoe, hce⟩

theorem pyNext_zipB_item {z TI TO i1 i2 l1 l2 : Addr} {k1 k2 : Nat} {xs ys : Array Value} {x y a b : Value} {Q : Option Value → Shared → Prop} (D : ZipApart z TI TO i1 i2 l1 l2)
    (hz : IsZip s.heap z TI TO .none) (hTI : IsPair s.heap TI (.ref i1) (.ref i2)) (hTO : IsPair s.heap TO a b)
    (h1 : ItB t1 s.heap i1 l1 k1) (h2 : ItB t2 s.heap i2 l2 k2) (hl1 : SqV t1 s.heap l1 xs) (hl2 : SqV t2 s.heap l2 ys) (hx : xs[k1]? = some x) (hy : ys[k2]? = some y)
    (hQ : ∀ h', IsZip h' z TI TO (rawInt s.heap.objs.size) → IsPair h' TO x y → ItB t1 h' i1 l1 (k1 + 1) → ItB t2 h' i2 l2 (k2 + 1) → IsPair h' s.heap.objs.size x y → h'.objs.size = s.heap.objs.size + 1 →
      (∀ c o, c ≠ z → c ≠ TO → c ≠ i1 → c ≠ i2 → s.heap.get? c = some o → h'.get? c = some o) → Q (some (.ref s.heap.objs.size)) { s with heap := h' }) :
    wpAny (model prog w) A (pyNext (.ref z)) Q E s := by
  have hT : s.TypeIs (.ref z) "zip" := ⟨_, hz, rfl⟩
  unfold pyNext
  exact wpAny_bind (wpAny_attempt (wpAny_callSpecial?_slot (name := Str.ofString "__next__") hT F.slot_zip_next
    (wpAny_call_entry F.slot_zip_next hT F.entry_zip_next
      (zipB_next_item D hz hTI hTO h1 h2 hl1 hl2 hx hy fun h' a1 a2 a3 a4 a5 a6 a7 => wpAny_pure (hQ h' a1 a2 a3 a4 a5 a6 a7)) (F.args_zip_next_1 _))))

theorem pyNext_zipB_end {z TI TO i1 i2 l1 l2 : Addr} {k1 k2 : Nat} {xs ys : Array Value} {a b : Value} {Q : Option Value → Shared → Prop} (hh : A.handled = none) (D : ZipApart z TI TO i1 i2 l1 l2)
    (hz : IsZip s.heap z TI TO .none) (hTI : IsPair s.heap TI (.ref i1) (.ref i2)) (hTO : IsPair s.heap TO a b)
    (h1 : ItB t1 s.heap i1 l1 k1) (h2 : ItB t2 s.heap i2 l2 k2) (hl1 : SqV t1 s.heap l1 xs) (hl2 : SqV t2 s.heap l2 ys) (hend : xs[k1]? = none ∨ ys[k2]? = none)
    (hQ : ∀ h', (∀ c o, c ≠ z → c ≠ TO → c ≠ i1 → c ≠ i2 → s.heap.get? c = some o → h'.get? c = some o) → Q none { s with heap := h' }) : wpAny (model prog w) A (pyNext (.ref z)) Q E s := by
  have hT : s.TypeIs (.ref z) "zip" := ⟨_, hz, rfl⟩
  unfold pyNext
  refine wpAny_bind (wpAny_attempt (wpAny_callSpecial?_slot (name := Str.ofString "__next__") hT F.slot_zip_next
    (wpAny_call_entry F.slot_zip_next hT F.entry_zip_next (zipB_next_end hh D hz hTI hTO h1 h2 hl1 hl2 hend fun h' e hk he => ?_) (F.args_zip_next_1 _))))
  obtain ⟨o, ho, hc⟩ := he
  refine wpAny_bind (wpAny_isInstance (T := "StopIteration") (b := true) ⟨o, ho, hc⟩ isSubtype_stop ?_)
  exact wpAny_pure (hQ _ hk)
end

abbrev zipBH1 (t1 : Bool) (h : Heap) (l1 : Addr) : Heap := h.push { cls := .type (itN t1), data := .fields #[.ref l1, .int 0 0] }
abbrev zipBH2 (t1 t2 : Bool) (h : Heap) (l1 l2 : Addr) : Heap := (zipBH1 t1 h l1).push { cls := .type (itN t2), data := .fields #[.ref l2, .int 0 0] }
abbrev zipBH3 (t1 t2 : Bool) (h : Heap) (l1 l2 : Addr) : Heap := (zipBH2 t1 t2 h l1 l2).push { cls := .type "tuple", data := .seq #[.ref h.objs.size, .ref (zipBH1 t1 h l1).objs.size] }
abbrev zipBH4 (t1 t2 : Bool) (h : Heap) (l1 l2 : Addr) : Heap := (zipBH3 t1 t2 h l1 l2).push { cls := .type "tuple", data := .seq #[.none, .none] }
abbrev zipBH5 (t1 t2 : Bool) (h : Heap) (l1 l2 : Addr) : Heap := (zipBH4 t1 t2 h l1 l2).push { cls := .type "zip", data := .fields #[.none, .bool false, .bool false, .ref (zipBH2 t1 t2 h l1 l2).objs.size, .ref (zipBH3 t1 t2 h l1 l2).objs.size] }

theorem meets_zipB_new (t1 t2 : Bool) (l1 l2 : Addr) (xs ys : Array Value) :
    Meets (Builtin.«zip.__new__» ⟨[.type "zip", .ref l1, .ref l2], []⟩) (fun _ R s => SqV t1 s.heap l1 xs ∧ SqV t2 s.heap l2 ys ∧
      R (.ok (.ret (.ref (zipBH4 t1 t2 s.heap l1 l2).objs.size))) { s with heap := zipBH5 t1 t2 s.heap l1 l2 }) :=
  .of_wp fun prog w A R s h => by
    obtain ⟨hp, g, d, tk, os⟩ := s; obtain ⟨hl1, hl2, h⟩ := h
    have hsub := sub_zip
    cases t1 <;> cases t2
    · have hL1 : Heap.IsList (Shared.heap ⟨hp, g, d, tk, os⟩) l1 xs := hl1
      have hL2 : Heap.IsList (Shared.heap ⟨hp.push { cls := .type "list_iterator", data := .fields #[.ref l1, .int 0 0] }, g, d, tk, os⟩) l2 ys := Heap.IsList.push hl2 _
      wp_walk using wpAny_pyIter_list hL1, wpAny_pyIter_list hL2
      refine ⟨_, rfl, ?_⟩
      unfold zipBH5 zipBH4 zipBH3 zipBH2 zipBH1 itN at h
      exact h
    · have hL1 : Heap.IsList (Shared.heap ⟨hp, g, d, tk, os⟩) l1 xs := hl1
      have hL2 : Heap.IsTuple (Shared.heap ⟨hp.push { cls := .type "list_iterator", data := .fields #[.ref l1, .int 0 0] }, g, d, tk, os⟩) l2 ys := Heap.IsTuple.push hl2 _
      wp_walk using wpAny_pyIter_list hL1, wpAny_pyIter_tuple hL2
      refine ⟨_, rfl, ?_⟩
      unfold zipBH5 zipBH4 zipBH3 zipBH2 zipBH1 itN at h
      exact h
    · have hL1 : Heap.IsTuple (Shared.heap ⟨hp, g, d, tk, os⟩) l1 xs := hl1
      have hL2 : Heap.IsList (Shared.heap ⟨hp.push { cls := .type "tuple_iterator", data := .fields #[.ref l1, .int 0 0] }, g, d, tk, os⟩) l2 ys := Heap.IsList.push hl2 _
      wp_walk using wpAny_pyIter_tuple hL1, wpAny_pyIter_list hL2
      refine ⟨_, rfl, ?_⟩
      unfold zipBH5 zipBH4 zipBH3 zipBH2 zipBH1 itN at h
      exact h
    · have hL1 : Heap.IsTuple (Shared.heap ⟨hp, g, d, tk, os⟩) l1 xs := hl1
      have hL2 : Heap.IsTuple (Shared.heap ⟨hp.push { cls := .type "tuple_iterator", data := .fields #[.ref l1, .int 0 0] }, g, d, tk, os⟩) l2 ys := Heap.IsTuple.push hl2 _
      wp_walk using wpAny_pyIter_tuple hL1, wpAny_pyIter_tuple hL2
      refine ⟨_, rfl, ?_⟩
      unfold zipBH5 zipBH4 zipBH3 zipBH2 zipBH1 itN at h
      exact h

section
variable {prog : Program} {w : World} {A : Around} {E : Value → Shared → Prop} {s : Shared} {t1 t2 : Bool}

theorem call_zipB {l1 l2 : Addr} {xs ys : Array Value} {Q : Value → Shared → Prop} (hl1 : SqV t1 s.heap l1 xs) (hl2 : SqV t2 s.heap l2 ys)
    (h : ∀ h', IsZip h' (s.heap.objs.size + 4) (s.heap.objs.size + 2) (s.heap.objs.size + 3) .none → IsPair h' (s.heap.objs.size + 2) (.ref s.heap.objs.size) (.ref (s.heap.objs.size + 1)) →
      IsPair h' (s.heap.objs.size + 3) .none .none → ItB t1 h' s.heap.objs.size l1 0 → ItB t2 h' (s.heap.objs.size + 1) l2 0 → h'.objs.size = s.heap.objs.size + 5 →
      (∀ c o, s.heap.get? c = some o → h'.get? c = some o) → Q (.ref (s.heap.objs.size + 4)) { s with heap := h' }) :
    wpAny (model prog w) A (call (.type "zip") [.ref l1, .ref l2]) Q E s := by
  refine callType_new F.called_zip (by decide) (F.typeCall_zip_2 _ _) (F.newCall_zip_2 _ _) (fun obj => F.args_object_init_3 obj _ _) F.entry_zip_new
    (meets_zipB_new t1 t2 l1 l2 xs ys) ⟨hl1, hl2, ?_⟩
  have z1 : (zipBH1 t1 s.heap l1).objs.size = s.heap.objs.size + 1 := Heap.size_push ..
  have z2 : (zipBH2 t1 t2 s.heap l1 l2).objs.size = s.heap.objs.size + 2 := by rw [Heap.size_push, z1]
  have z3 : (zipBH3 t1 t2 s.heap l1 l2).objs.size = s.heap.objs.size + 3 := by rw [Heap.size_push, z2]
  have z4 : (zipBH4 t1 t2 s.heap l1 l2).objs.size = s.heap.objs.size + 4 := by rw [Heap.size_push, z3]
  have z5 : (zipBH5 t1 t2 s.heap l1 l2).objs.size = s.heap.objs.size + 5 := by rw [Heap.size_push, z4]
  have g5 : (zipBH5 t1 t2 s.heap l1 l2).get? (zipBH4 t1 t2 s.heap l1 l2).objs.size = some _ := Heap.get?_push_size _ rfl
  have g4 : (zipBH5 t1 t2 s.heap l1 l2).get? (zipBH3 t1 t2 s.heap l1 l2).objs.size = some _ := Heap.get?_push_of_some _ (Heap.get?_push_size _ rfl)
  have g3 : (zipBH5 t1 t2 s.heap l1 l2).get? (zipBH2 t1 t2 s.heap l1 l2).objs.size = some _ := Heap.get?_push_of_some _ (Heap.get?_push_of_some _ (Heap.get?_push_size _ rfl))
  have g2 : (zipBH5 t1 t2 s.heap l1 l2).get? (zipBH1 t1 s.heap l1).objs.size = some _ := Heap.get?_push_of_some _ (Heap.get?_push_of_some _ (Heap.get?_push_of_some _ (Heap.get?_push_size _ rfl)))
  have g1 : (zipBH5 t1 t2 s.heap l1 l2).get? s.heap.objs.size = some _ := Heap.get?_push_of_some _ (Heap.get?_push_of_some _ (Heap.get?_push_of_some _ (Heap.get?_push_of_some _ (Heap.get?_push_size _ rfl))))
  show _ ∧ _
  rw [z2, z3, z4] at g5
  rw [z1, z2] at g3
  rw [z3] at g4
  rw [z1] at g2
  rw [z4]
  exact ⟨⟨_, g5, rfl⟩, h _ g5 g3 g4 (by cases t1 <;> exact ⟨_, g1, rfl, rfl⟩) (by cases t2 <;> exact ⟨_, g2, rfl, rfl⟩) z5 fun c o x =>
    Heap.get?_push_of_some _ (Heap.get?_push_of_some _ (Heap.get?_push_of_some _ (Heap.get?_push_of_some _ (Heap.get?_push_of_some _ x))))⟩
end
theorem sqB_inv {t : Bool} {X : Cx} {pins : List (Addr × Obj)} {σ : L2.St} {H : Hp} {s : Shared} {a : Addr} {xs : List V} (I : Inv X pins σ H s) (h : SqB t X.K H a xs) : ∃ its : List Value, Vals xs its ∧ SqV t s.heap a its.toArray := by
  cases t
  · obtain ⟨its, rv, p, _⟩ := I.list h; exact ⟨its, rv, p.isList⟩
  · obtain ⟨its, rv, p, _⟩ := I.tuple h; exact ⟨its, rv, p⟩
theorem sqB_inj {t : Bool} {X : Cx} {pins : List (Addr × Obj)} {σ : L2.St} {H : Hp} {s : Shared} {a : Addr} {xs ys : List V} (I : Inv X pins σ H s) (h : SqB t X.K H a xs) (k : SqB t X.K H a ys) : xs = ys := by
  cases t
  · exact I.list_inj h k
  · exact I.tuple_inj h k
/-- the tuples at a and b as they stand at each turn, the items in new pairs -/
def ItzB (t1 t2 : Bool) (K : PySem.W.Frag) (a b : Addr) : It :=
  ⟨fun i H => ∃ (xs ys : List V) (x y : V), SqB t1 K H a xs ∧ SqB t2 K H b ys ∧ xs[i]? = some x ∧ ys[i]? = some y,
    fun i H v H' => ∃ T x y, v = .ref T ∧ H T = none ∧ H' = upd H T (.tup [x, y]) ∧ (∀ xs, SqB t1 K H a xs → xs[i]? = some x) ∧ ∀ ys, SqB t2 K H b ys → ys[i]? = some y,
    fun i H => ∃ xs ys : List V, SqB t1 K H a xs ∧ SqB t2 K H b ys ∧ (xs.length ≤ i ∨ ys.length ≤ i)⟩
theorem turn_zipB {t1 t2 : Bool} {P : Program} {w : World} {K : PySem.W.Frag} {elts : List Expr} {kk : Nat} {tpos : Pos} {a b z TI TO i1 i2 : Addr} (D : ZipApart z TI TO i1 i2 a b) :
    Turn P w K (.Tuple elts kk tpos) (ItzB t1 t2 K a b) [z, TI, TO, i1, i2] z (fun i h => IsZip h z TI TO .none ∧ IsPair h TI (.ref i1) (.ref i2) ∧ (∃ x y, IsPair h TO x y) ∧ ItB t1 h i1 a i ∧ ItB t2 h i2 b i) where
  mem := by simp
  obj := fun i h st c hc => by
    obtain ⟨hz, hTI, ⟨x, y, hTO⟩, h1, h2⟩ := st
    obtain ⟨o1, e1, d1⟩ := h1.obj
    obtain ⟨o2, e2, d2⟩ := h2.obj
    have e' : c = z ∨ c = TI ∨ c = TO ∨ c = i1 ∨ c = i2 := by simpa using hc
    rcases e' with q | q | q | q | q
    · rw [q]; exact ⟨_, hz, fun v q => nomatch q⟩
    · rw [q]; exact ⟨_, hTI, fun v q => nomatch q⟩
    · rw [q]; exact ⟨_, hTO, fun v q => nomatch q⟩
    · rw [q]; exact ⟨o1, e1, d1⟩
    · rw [q]; exact ⟨o2, e2, d2⟩
  keep := fun i h h' st k => by
    obtain ⟨hz, hTI, ⟨x, y, hTO⟩, h1, h2⟩ := st
    exact ⟨k z (by simp) _ hz, k TI (by simp) _ hTI, ⟨x, y, k TO (by simp) _ hTO⟩, h1.at fun o q => k i1 (by simp) o q, h2.at fun o q => k i2 (by simp) o q⟩
  item := by
    intro X hP hw hK hc i pins s σ H E I hf st hg
    subst hP hw hK
    obtain ⟨hz, hTI, ⟨x0, y0, hTO⟩, h1, h2⟩ := st
    obtain ⟨xs, ys, x, y, hqx, hqy, hx, hy⟩ := hg
    obtain ⟨its, rv, p⟩ := sqB_inv I hqx
    obtain ⟨its2, rv2, p2⟩ := sqB_inv I hqy
    obtain ⟨u, hu, ru⟩ := rv.get hx
    obtain ⟨u2, hu2, ru2⟩ := rv2.get hy
    have hzl : z < s.heap.objs.size := Heap.lt_size hz
    refine pyNext_zipB_item D hz hTI hTO h1 h2 p p2 (x := u) (y := u2) (by simpa using hu) (by simpa using hu2) fun h' z' TO' h1' h2' hT hsz hk => ?_
    refine ⟨_, rfl, wpAny_letOwnedTupleGo_zip (s := { s with heap := h' }) z' fun h'' z'' sb => ?_⟩
    have hT2 : h''.get? s.heap.objs.size = some { cls := .type "tuple", data := .seq #[u, u2] } := (sb.2 _ (Nat.ne_of_gt hzl)).trans hT
    have new : ObjOk X.prog X.w (upd H s.heap.objs.size (.tup [x, y])) h'' s.heap.objs.size (.tup [x, y]) :=
      ⟨by show 2 ≤ sizeLine; decide, [u, u2], .cons ru (.cons ru2 .nil), ⟨_, hT2, rfl, _, rfl⟩⟩
    have I1 : Inv X pins σ (upd H s.heap.objs.size (.tup [x, y])) { s with heap := h'' } :=
      I.turnedNew (t' := s.toks) (ch := [z, TI, TO, i1, i2]) (fun c o hb q => (sb.2 c (fun q' => hb (by simp [q']))).trans (hk c o (fun q' => hb (by simp [q'])) (fun q' => hb (by simp [q'])) (fun q' => hb (by simp [q'])) (fun q' => hb (by simp [q'])) q)) hf (Nat.le_refl _) new
    refine ⟨.ref s.heap.objs.size, _, I1, rfl, ⟨_, x, y, rfl, I.hok.fresh (Nat.le_refl _), rfl, fun l hl => by rw [sqB_inj I hl hqx]; exact hx, fun l hl => by rw [sqB_inj I hl hqy]; exact hy⟩, ⟨z'', ?_, ⟨u, u2, ?_⟩, ?_, ?_⟩, fun c hcm => ?_⟩
    · exact (sb.2 _ D.TIz).trans (hk _ _ D.TIz D.TITO D.TIi1 D.TIi2 hTI)
    · exact (sb.2 _ D.TOz).trans TO'
    · exact h1'.at fun o q => (sb.2 _ D.i1z).trans q
    · exact h2'.at fun o q => (sb.2 _ D.i2z).trans q
    · have hlt : c < s.heap.objs.size := by
        have e' : c = z ∨ c = TI ∨ c = TO ∨ c = i1 ∨ c = i2 := by simpa using hcm
        rcases e' with q | q | q | q | q
        · rw [q]; exact hzl
        · rw [q]; exact Heap.lt_size hTI
        · rw [q]; exact Heap.lt_size hTO
        · rw [q]; obtain ⟨_, e1, _⟩ := h1.obj; exact Heap.lt_size e1
        · rw [q]; obtain ⟨_, e2, _⟩ := h2.obj; exact Heap.lt_size e2
      rw [upd_ne (Nat.ne_of_lt hlt)]
      exact (hf c hcm).1
  done := by
    intro X hP hw hK hc i pins s σ H E I hf st hg
    subst hP hw hK
    obtain ⟨hz, hTI, ⟨x0, y0, hTO⟩, h1, h2⟩ := st
    obtain ⟨xs, ys, hqx, hqy, hend⟩ := hg
    obtain ⟨its, rv, p⟩ := sqB_inv I hqx
    obtain ⟨its2, rv2, p2⟩ := sqB_inv I hqy
    have l1 := rv.length
    have l2 := rv2.length
    have he : its.toArray[i]? = none ∨ its2.toArray[i]? = none := by
      rcases hend with q | q
      · exact .inl (by simp; omega)
      · exact .inr (by simp; omega)
    exact pyNext_zipB_end (I.ok.hd hc) D hz hTI hTO h1 h2 p p2 he fun h' hk => ⟨rfl, I.turnedL (t' := s.toks) (ch := [z, TI, TO, i1, i2]) (fun c o hb q =>
      hk c o (fun q' => hb (by simp [q'])) (fun q' => hb (by simp [q'])) (fun q' => hb (by simp [q'])) (fun q' => hb (by simp [q'])) q) hf⟩
  self := fun A i s Q E st h => wpAny_pyIter_zip st.1 h


def iZipM (K : PySem.W.Frag) (ta : TA) : TI := fun σ H R => ta σ H fun vs H1 => ∃ (t1 t2 : Bool) (a b : Addr) (xs ys : List V), vs = [.ref a, .ref b] ∧ SqB t1 K H1 a xs ∧ SqB t2 K H1 b ys ∧ R (ItzB t1 t2 K a b) H1
theorem SqV.lt {t : Bool} {h : Heap} {l : Addr} {xs : Array Value} (x : SqV t h l xs) : l < h.objs.size := by
  cases t
  · obtain ⟨o, e, _⟩ := x; exact Heap.lt_size e
  · obtain ⟨o, e, _⟩ := x; exact Heap.lt_size e
theorem pi_zipM {X : Cx} {e e2 : Expr} {ta : TA} {p pos tpos : Pos} {elts : List Expr} {kk : Nat} (hg : Gl X "zip") (hm : X.mg "zip" = none) (ha : PA X [e, e2] ta)
    (hs : starEach [e, e2] X.env = (false, eval e X.env) :: starEach [e2] X.env := by rfl) (hpl : (backTo pos (starEach [e2] X.env)).any (·.1) = false := by rfl) :
    PI X (.Tuple elts kk tpos) (.Call (.Name "zip" p) [e, e2] [] pos) (iZipM X.K ta) := by
  refine ⟨fun pins s σ H R I h => ?_⟩
  refine Call_ (ld_blt I hg hm PyProof.Rows.boot_zip (PyProof.Rows.callWith_type1 (thn (ha.run pos pins s σ H _ I h) fun us s1 ⟨vs, H1, I1, r1, q1⟩ => ?_) hs hpl))
  obtain ⟨t1, t2, a, b, xs, ys, ex, hqx, hqy, q⟩ := q1
  subst ex
  cases r1 with
  | cons r rr =>
    cases rr with
    | cons r' rr =>
      cases rr
      cases r
      cases r'
      have fresh5 : ∀ c, c ∈ [s1.heap.objs.size + 4, s1.heap.objs.size + 2, s1.heap.objs.size + 3, s1.heap.objs.size, s1.heap.objs.size + 1] → FpOk X pins H1 c := fun c hcm => by
        have e' : c = s1.heap.objs.size + 4 ∨ c = s1.heap.objs.size + 2 ∨ c = s1.heap.objs.size + 3 ∨ c = s1.heap.objs.size ∨ c = s1.heap.objs.size + 1 := by simpa using hcm
        have hle : s1.heap.objs.size ≤ c := by
          rcases e' with z | z | z | z | z <;> rw [z] <;> omega
        exact I1.fpOk hle (I1.hok.fresh hle)
      obtain ⟨its, rv, p1⟩ := sqB_inv I1 hqx
      obtain ⟨its2, rv2, p2⟩ := sqB_inv I1 hqy
      refine call_zipB p1 p2 fun h' hz hTI hTO h1 h2 hsz hk => wpAny_pyIter_zip hz ?_
      have I2 : Inv X pins σ H1 { s1 with heap := h' } := I1.kept (t' := s1.toks) hk
      exact ⟨s1.heap.objs.size + 4, [s1.heap.objs.size + 4, s1.heap.objs.size + 2, s1.heap.objs.size + 3, s1.heap.objs.size, s1.heap.objs.size + 1], _, _, H1, rfl, I2, turn_zipB (PySem.W.ktu_apart s1.heap.objs.size a b p1.lt p2.lt), ⟨hz, hTI, ⟨_, _, hTO⟩, h1, h2⟩, fresh5, q⟩
/-! the reading over data -/
def zipD (xs ys : List PyData) : List PyData := (xs.zip ys).map fun p => .tuple [p.1, p.2]
theorem SqB.of {K : PySem.W.Frag} {H : Hp} {a : Addr} {vs : List V} : (H a = some (.lst vs) → SqB false K H a vs) ∧ (H a = some (.tup vs) → SqB true K H a vs) := ⟨fun h => SqL.of h, fun h => SqT.of h⟩
theorem wk_zip {K : PySem.W.Frag} {t1 t2 : Bool} {a b : Addr} {vs us : List V} {F H : Hp} {xs ys : List PyData} (s : Sub F H) (ha : SqB t1 K H a vs) (hb : SqB t2 K H b us) (ra : RpAll F vs xs) (rb : RpAll F us ys) :
    (∀ i d, (zipD xs ys)[i]? = some d → (ItzB t1 t2 K a b).go i H ∧ ∀ x H', (ItzB t1 t2 K a b).yld i H x H' → ∃ F', Grow [] F H F' H' ∧ Rp F' x d) ∧ (ItzB t1 t2 K a b).stop (zipD xs ys).length H :=
  ⟨fun i d e => by
    unfold zipD at e
    rw [List.getElem?_map] at e
    cases q : (xs.zip ys)[i]? with
    | none => rw [q] at e; cases e
    | some pq =>
      rw [q] at e
      cases e
      obtain ⟨q1, q2⟩ := List.getElem?_zip_eq_some.mp q
      obtain ⟨v, h1, h2⟩ := ra.get q1
      obtain ⟨u, h3, h4⟩ := rb.get q2
      refine ⟨⟨vs, us, v, u, ha, hb, h1, h3⟩, fun x H' ⟨T, z1, z2, e1, e2, e3, e4, e5⟩ => ?_⟩
      subst e1 e3
      have e6 := e4 vs ha
      rw [h1] at e6; cases e6
      have e7 := e5 us hb
      rw [h3] at e7; cases e7
      exact ⟨_, .new s e2, .tup upd_same (.cons (h2.mono (Sub.new (s.none e2))) (.cons (h4.mono (Sub.new (s.none e2))) .nil))⟩,
   ⟨vs, us, ha, hb, by unfold zipD; rw [List.length_map, List.length_zip, ra.length, rb.length]; omega⟩⟩
section
variable {A : Str → Addr} {C : Pc} {E : L2.St → XK} {Γ : List Sl} {K : PySem.W.Frag} {ta tb : TE} {ma mb : WD}
theorem rp_seq {F : Hp} {v : V} {d : PyData} {k : List PyData → Prop} (r : Rp F v d) (h : seqW d k) : ∃ (t : Bool) (p : Addr) (vs : List V) (ds : List PyData), v = .ref p ∧ k ds ∧ RpAll F vs ds ∧ ∀ H', Sub F H' → SqB t K H' p vs := by
  cases r with
  | lst f ra => exact ⟨false, _, _, _, rfl, h, ra, fun H' s => SqL.of (s _ _ f)⟩
  | tup f ra => exact ⟨true, _, _, _, rfl, h, ra, fun H' s => SqT.of (s _ _ f)⟩
  | _ => exact h.elim
theorem fw_zip (ha : Ew A C E ta Γ ma) (hb : Ew A C E tb Γ mb) : Fw A C E (iZipM K (tCons ta (tCons tb tNil))) Γ (fun P X => ma (fun x => mb (fun y => seqW x fun xs => seqW y fun ys => letW (zipD xs ys) P) X) X) := fun P X hm B F H σ wd g R r xo =>
  ha _ X hm B F H σ wd g _ (fun v F1 H1 x g1 w1 h1 r1 => hb _ X h1 B F1 H1 σ w1 (g.grow g1) _ (fun u F2 H2 y g2 w2 h2 r2 => by
    obtain ⟨t1, p, vs, xs, rfl, h3, ra, qa⟩ := rp_seq (K := K) (r1.mono g2.ff) h2
    obtain ⟨t2, q, us, ys, rfl, h4, rb, qb⟩ := rp_seq (K := K) r2 h3
    refine ⟨t1, t2, p, q, vs, us, rfl, qa H2 w2.sub, qb H2 w2.sub, r _ F2 H2 _ (g1.trans g2) w2 h4 fun F3 H3 s1 s2 => wk_zip s2 (qa H3 (s1.trans s2)) (qb H3 (s1.trans s2)) (ra.mono s1) (rb.mono s1)⟩) (xo.go g1)) xo
end
end Eh

namespace Eh
open PySem PySem.Spec PyProof.Rows L2
variable {A : Str → Addr} {C : Pc} {E : L2.St → XK} {Γ : List Sl} {K : PySem.W.Frag} {ta tb te : TE} {la : WL} {ma mb m : WD} {B F0 : Hp} {P : PyData → Prop} {X : XP} {N0 : L2.St → Hp → Prop} {r0 : L2.VK} {b0 c0 : L2.St → Hp → Prop}
/-- a list some times over -/
@[reducible] def mulLW (xs : List PyData) (y : PyData) (k : List PyData → Prop) : Prop := match y with | .int j => 0 ≤ j ∧ j ≤ 1000 ∧ xs.length ≤ 100 ∧ k (List.replicate j.toNat xs).flatten | _ => False
theorem rep_all {F : Hp} {vs : List V} {ds : List PyData} (r : RpAll F vs ds) : ∀ n : Nat, RpAll F (List.replicate n vs).flatten (List.replicate n ds).flatten
  | 0 => .nil
  | n + 1 => by rw [List.replicate_succ, List.replicate_succ, List.flatten_cons, List.flatten_cons]; exact r.append (rep_all r n)
theorem nw_mul (ha : Lw A C E ta Γ la) (hb : Ew A C E tb Γ mb) : Nw A C E (tOp (rMulA K) ta tb) Γ (fun P X => la (fun xs => mb (fun y => mulLW xs y P) X) X) :=
  fun P X hm B F H σ wd g Q q xo => ha _ X hm B F H σ wd g _ (fun v F1 H1 xs g1 w1 h1 ⟨p, vs, e, n, hl, ra⟩ => hb _ X h1 B F1 H1 σ w1 (g.grow g1) _ (fun u F2 H2 y g2 w2 h2 r2 => by
    subst e
    unfold mulLW at h2
    split at h2
    · rename_i j
      obtain ⟨h3, h4, h5, h6⟩ := h2
      rw [r2.int_inv]
      have hsz : vs.length * j.toNat ≤ sizeLine := by
        have h7 : vs.length * j.toNat ≤ 100 * 1000 := Nat.mul_le_mul (by rw [ra.length]; exact h5) (by omega)
        exact Nat.le_trans h7 (by decide)
      refine .inr (.inl ⟨p, j, vs, rfl, rfl, g2.hh _ _ n hl, by omega, by omega, hsz, fun b hb => ?_⟩)
      have gg := g1.trans g2
      exact q _ F2 _ _ (gg.trans (.newM w2.sub hb)) (newM_wd w2 hb) h6 ⟨b, _, rfl, gg.fresh hb, w2.sub.none hb, fun z => w2.sH b z hb, upd_same, rep_all (ra.mono g2.ff) _⟩
    · exact h2.elim) (xo.go g1)) xo
/-- two names for a pair -/
theorem aw_unp2 {i j : Nat} {k0 : PyData → PyData → Prop} {Γ' : PyData → PyData → List Sl} (hΓ : ∀ a b, (Γ.set i (.dat a)).set j (.dat b) = Γ' a b) (h : Ew A C E te Γ m) (hx : RaiseT A C B F0 Γ E X) (hm : m (fun x => un2W x k0) X)
    (k : ∀ a b, k0 a b → At C B F0 (Γ' a b) N0) : At C B F0 Γ (tAsg te (gTup K 2 (gCons (gName i) (gCons (gName j) gNil))) (Ends.mk N0 r0 b0 c0)) := fun F H σ w g e =>
  h _ X hm B F H σ w e _ (fun v F1 H1 d g1 w1 pd r => by
    obtain ⟨a, b, hk, tg⟩ := tg_un2 (vs := [i, j]) (Γ := Γ) (i := i) (j := j) (K := K) (by simp) (by simp) pd
    exact tg C B F1 H1 σ v w1.sub (e.grow g1) r _ fun σ' gm _ => k a b hk F1 H1 σ' w1 (g.trans g1) (by rw [← hΓ a b]; exact gm)) (hx.xo w g e)
end Eh

namespace Eh
open PySem PySem.Spec PyProof.Rows L2
def t__law_state (K : PySem.W.Frag) (w : World) (E : XK) : TS :=
  (tSeq (tAsg (tC (.int 1181783497276652981)) (gName 1))
    (tSeq (tAsg (tLst tNil) (gName 2))
    (tSeq (tFor (iRng1 (tCons (tCB rMin2 (tCons (tCB (rLenA K) (tCons (tVar 0) tNil)) (tCons (tC (.int 63)) tNil))) tNil)) (gName 3) (tSeq (tAsg (tOp (rIx K) (tVar 0) (tVar 3)) (gName 4))
    (tSeq (tIfS (tTest (tOp rGeI (tVar 4) (tOp rPowI (tC (.int 10)) (tC (.int 18))))) (tDrop (tBM K "list" rAppend (tVar 2) (tCons (tVar 4) tNil))) tNext)
    (tAsg (tOp rModI (tCB rIntA (tCons (tOp (rAddA K) (tOp (rAddA K) (tOp (rMulA K) (tVar 1) (tVar 1)) (tVar 4)) (tVar 3)) tNil)) (tC (.int 2305843009213693951))) (gName 1)))))
    (tRet (tLst (tCons (tVar 2) (tCons (tC (.int 0)) (tCons (tVar 1) (tCons (tC (.int 0)) tNil)))))))))
def t__law_draw (K : PySem.W.Frag) (w : World) (E : XK) : TS :=
  (tSeq (tIfS (tAnd (tTest (tOp (rEqA K) (tOp (rIx K) (tVar 0) (tC (.int 1))) (tC (.int 0)))) (tTest (tOp rGtI (tCB (rLenA K) (tCons (tOp (rIx K) (tVar 0) (tC (.int 0))) tNil)) (tC (.int 0))))) (tAsg (tBM K "list" rPopAt (tOp (rIx K) (tVar 0) (tC (.int 0))) (tCons (tC (.int 0)) tNil)) (gSub (tVar 0) (tC (.int 1)) rSetL)) tNext)
    (tSeq (tIfS (tTest (tOp rGtI (tOp (rIx K) (tVar 0) (tC (.int 1))) (tC (.int 0)))) (tSeq (tAsg (tOp rModI (tCB rIntA (tCons (tOp (rIx K) (tVar 0) (tC (.int 1))) tNil)) (tVar 1)) (gName 2))
    (tSeq (tAsg (tOp rDivI (tOp (rIx K) (tVar 0) (tC (.int 1))) (tVar 1)) (gSub (tVar 0) (tC (.int 1)) rSetL))
    (tRet (tVar 2)))) tNext)
    (tSeq (tAsg (tOp (rAddA K) (tOp (rIx K) (tVar 0) (tC (.int 3))) (tC (.int 1))) (gSub (tVar 0) (tC (.int 3)) rSetL))
    (tSeq (tAsg (tOp rModI (tCB rIntA (tCons (tOp (rAddA K) (tOp (rAddA K) (tOp (rMulA K) (tOp (rIx K) (tVar 0) (tC (.int 2))) (tOp (rIx K) (tVar 0) (tC (.int 2)))) (tOp (rMulA K) (tOp (rIx K) (tVar 0) (tC (.int 3))) (tC (.int 2654435761)))) (tC (.int 12345))) tNil)) (tC (.int 2305843009213693951))) (gSub (tVar 0) (tC (.int 2)) rSetL))
    (tRet (tOp rModI (tCB rIntA (tCons (tOp rDivI (tOp (rIx K) (tVar 0) (tC (.int 2))) (tC (.int 65536))) tNil)) (tVar 1)))))))

/-! ### the state of the laws on knowing: [great, rest, seed, count] -/
def stPI (p g : Addr) (H : Hp) : Prop := ∃ (t s n : Int) (gs : List Int), H p = some (.lst [.ref g, .int t, .int s, .int n]) ∧ H g = some (.lst (gs.map V.int)) ∧ 0 ≤ t ∧ 0 ≤ s ∧ s < 2305843009213693951 ∧ (∀ x ∈ gs, 0 < x) ∧ gs.length ≤ 100
def stC (p g : Addr) : Pc := ⟨[p, g], p, stPI p g, fun H H' h ⟨t, s, n, gs, e1, e2, r⟩ => ⟨t, s, n, gs, (h p (by simp)).trans e1, (h g (by simp)).trans e2, r⟩⟩
def St (C : Pc) : Prop := ∃ p g, p ≠ g ∧ C = stC p g
def sp__law_draw : Sp := spD St (fun ds => ∃ n : Int, ds = [.int n] ∧ 0 < n ∧ n < 1073741824) fun ds d => ∃ n r : Int, ds = [.int n] ∧ d = .int r ∧ 0 ≤ r ∧ r < n
/-- the state's two lists as they stand behind a draw -/
theorem wd_state {p g : Addr} {F H H' : Hp} (w : Wd (stC p g) F H) (h : stPI p g H') (o : ∀ a, a ≠ p → a ≠ g → H' a = H a) : Wd (stC p g) F H' ∧ Grow [p, g] F H F H' := by
  have fp : F p = none := w.sF p (by show p ∈ [p, g]; simp)
  have fg : F g = none := w.sF g (by show g ∈ [p, g]; simp)
  have s : Sub F H' := fun a u e => by
    rw [o a (fun z => by subst z; rw [fp] at e; cases e) (fun z => by subst z; rw [fg] at e; cases e)]
    exact w.sub a u e
  have th : ∀ a, H a ≠ none → H' a ≠ none := fun a e => by
    by_cases z : a = p
    · subst z
      obtain ⟨t, s, n, gs, e1, _⟩ := h
      rw [e1]; exact fun z => nomatch z
    · by_cases z2 : a = g
      · subst z2
        obtain ⟨t, s, n, gs, _, e2, _⟩ := h
        rw [e2]; exact fun z => nomatch z
      · rw [o a z z2]; exact e
  exact ⟨⟨s, h, w.sF, fun a ha => th a (w.sH a ha)⟩, ⟨Sub.refl F, s, fun a u n e => by
    rw [o a (fun z => n (by rw [z]; simp)) (fun z => n (by rw [z]; simp))]; exact e, th, fun _ _ n => n⟩⟩
section
variable {K : PySem.W.Frag} {w : World} {E : XK}
theorem draw_low {p g : Addr} {H : Hp} {t s n many : Int} {gs : List Int} {D : Ends} (hpg : p ≠ g) (hm : 0 < many) (hm2 : many < 1073741824) (hp : H p = some (.lst [.ref g, .int t, .int s, .int n])) (hg : H g = some (.lst (gs.map V.int))) (ht : 0 ≤ t) (hs : 0 ≤ s) (hs2 : s < 2305843009213693951)
    (hq : ∀ (r t' s' n' : Int) (H' : Hp), 0 ≤ r → r < many → 0 ≤ t' → 0 ≤ s' → s' < 2305843009213693951 → H' p = some (.lst [.ref g, .int t', .int s', .int n']) → (∀ a, a ≠ p → H' a = H a) → D.rt (.int r) H') :
    (tSeq (tIfS (tTest (tOp rGtI (tOp (rIx K) (tVar 0) (tC (.int 1))) (tC (.int 0)))) (tSeq (tAsg (tOp rModI (tCB rIntA (tCons (tOp (rIx K) (tVar 0) (tC (.int 1))) tNil)) (tVar 1)) (gName 2))
    (tSeq (tAsg (tOp rDivI (tOp (rIx K) (tVar 0) (tC (.int 1))) (tVar 1)) (gSub (tVar 0) (tC (.int 1)) rSetL))
    (tRet (tVar 2)))) tNext)
    (tSeq (tAsg (tOp (rAddA K) (tOp (rIx K) (tVar 0) (tC (.int 3))) (tC (.int 1))) (gSub (tVar 0) (tC (.int 3)) rSetL))
    (tSeq (tAsg (tOp rModI (tCB rIntA (tCons (tOp (rAddA K) (tOp (rAddA K) (tOp (rMulA K) (tOp (rIx K) (tVar 0) (tC (.int 2))) (tOp (rIx K) (tVar 0) (tC (.int 2)))) (tOp (rMulA K) (tOp (rIx K) (tVar 0) (tC (.int 3))) (tC (.int 2654435761)))) (tC (.int 12345))) tNil)) (tC (.int 2305843009213693951))) (gSub (tVar 0) (tC (.int 2)) rSetL))
    (tRet (tOp rModI (tCB rIntA (tCons (tOp rDivI (tOp (rIx K) (tVar 0) (tC (.int 2))) (tC (.int 65536))) tNil)) (tVar 1)))))) D (L2.start ["state", "many", "at"] [.ref p, .int many]) H := by
  have m0 : ∀ x : Int, 0 ≤ x % many := fun x => Int.emod_nonneg _ (by omega)
  have m1 : ∀ x : Int, x % many < many := fun x => Int.emod_lt_of_pos _ hm
  have z0 : ∀ x : Int, 0 ≤ x % 2305843009213693951 := fun x => Int.emod_nonneg _ (by decide)
  have z1 : ∀ x : Int, x % 2305843009213693951 < 2305843009213693951 := fun x => Int.emod_lt_of_pos _ (by decide)
  refine sx_if (ex_gt (ex_ixN 1 (ex_var rfl) ex_c hp rfl) ex_c) (fun ht0 => ?_) fun _ => ?_
  · refine sx_asg (ex_mod (ex_int (ex_ixN 1 (ex_var rfl) ex_c hp rfl)) (ex_var rfl) hm) ?_
    refine sx_setN 1 (ex_div (ex_ixN 1 (ex_var rfl) ex_c hp rfl) (ex_var rfl) ⟨hm, hm2⟩) (ex_var rfl) ex_c hp (by simp) ?_
    exact sx_ret (ex_var rfl) (hq _ (t / many) s n _ (m0 _) (m1 _) (Int.ediv_nonneg ht (by omega)) hs hs2 upd_same fun a ha => upd_ne ha)
  · refine sx_setN 3 (ex_add (ex_ixN 3 (ex_var rfl) ex_c hp rfl) ex_c) (ex_var rfl) ex_c hp (by simp) ?_
    refine sx_setN 2 (ex_mod (ex_int (ex_add (ex_add (ex_mul (ex_ixN 2 (ex_var rfl) ex_c upd_same rfl) (ex_ixN 2 (ex_var rfl) ex_c upd_same rfl) (.inl ⟨by omega, by omega⟩)) (ex_mul (ex_ixN 3 (ex_var rfl) ex_c upd_same rfl) ex_c (.inr ⟨by decide, by decide⟩))) ex_c)) ex_c (by decide)) (ex_var rfl) ex_c upd_same (by simp) ?_
    refine sx_ret (ex_mod (ex_int (ex_div (ex_ixN 2 (ex_var rfl) ex_c upd_same rfl) ex_c ⟨by decide, by decide⟩)) (ex_var rfl) hm) (hq _ t _ (n + 1) _ (m0 _) (m1 _) ht (z0 _) (z1 _) upd_same fun a ha => ?_)
    rw [upd_ne ha, upd_ne ha]
theorem pure_draw (vs : List V) (H : Hp) (Q : VK) (E : XK) (h : sp__law_draw vs H Q E) : t__law_draw K w E { nx := fun _ H' => Q .non H', rt := Q } (L2.start ["state", "many", "at"] vs) H := by
  obtain ⟨C, F, ws, ds, ⟨p, g, hpg, rfl⟩, rfl, wd, r, ⟨many, rfl, hm, hm2⟩, hq⟩ := h
  cases r with
  | cons r1 r2 =>
    cases r2
    rw [r1.int_inv]
    obtain ⟨t, s, n, gs, hp, hg, ht, hs, hs2, hgs, hgl⟩ := wd.pi
    have fin : ∀ (r t' s' n' : Int) (gs' : List Int) (H' : Hp), (∀ x ∈ gs', 0 < x) → gs'.length ≤ 100 → 0 ≤ r → r < many → 0 ≤ t' → 0 ≤ s' → s' < 2305843009213693951 → H' p = some (.lst [.ref g, .int t', .int s', .int n']) → H' g = some (.lst (gs'.map V.int)) → (∀ a, a ≠ p → a ≠ g → H' a = H a) → Q (.int r) H' := fun r t' s' n' gs' H' h1 h2 a b c d e e1 e2 o => by
      obtain ⟨w2, g2⟩ := wd_state wd ⟨t', s', n', gs', e1, e2, c, d, e, h1, h2⟩ o
      exact hq _ F _ (.int r) g2 w2 ⟨many, r, rfl, rfl, a, b⟩ (.int r)
    refine sx_if (ex_and (ex_eq (ex_ixN 1 (ex_var rfl) ex_c hp rfl) ex_c) (fun _ => ex_gt (ex_len (ex_ixN 0 (ex_var rfl) ex_c hp rfl) hg) ex_c) fun _ => rfl) (fun hb => ?_) fun hb => ?_
    · rw [Bool.and_eq_true] at hb
      have h2 := of_decide_eq_true hb.2
      cases gs with
      | nil => exact absurd h2 (show ¬ ((0 : Int) < ((0 : Nat) : Int)) by decide)
      | cons x gs =>
        have hp' : upd H g (.lst ((V.int x :: gs.map V.int).eraseIdx 0)) p = some (.lst [.ref g, .int t, .int s, .int n]) := (upd_ne hpg).trans hp
        refine sx_setN 1 (ex_pop (k := 0) (ex_ixN 0 (ex_var rfl) ex_c hp rfl) ex_c hg hg rfl (by simp at hgl ⊢; omega)) (ex_var rfl) ex_c hp' (by simp) ?_
        refine draw_low (gs := gs) (s := s) (t := x) (n := n) hpg hm hm2 upd_same ((upd_ne (Ne.symm hpg)).trans upd_same) (Int.le_of_lt (hgs x List.mem_cons_self)) hs hs2 fun r t' s' n' H' a b c d e e1 o => ?_
        refine fin r t' s' n' gs H' (fun y hy => hgs y (List.mem_cons_of_mem _ hy)) (by simp at hgl; omega) a b c d e e1 ?_ fun y h1 h2 => ?_
        · exact (o g (Ne.symm hpg)).trans ((upd_ne (Ne.symm hpg)).trans upd_same)
        · exact (o y h1).trans ((upd_ne h1).trans (upd_ne h2))
    · exact draw_low (gs := gs) (s := s) (t := t) (n := n) hpg hm hm2 hp hg ht hs hs2 fun r t' s' n' H' a b c d e e1 o => fin r t' s' n' gs H' hgs hgl a b c d e e1 ((o g (Ne.symm hpg)).trans hg) fun y h1 _ => o y h1
/-- one draw -/
theorem ei_draw {C : Pc} {Γ : List Sl} {i : Nat} {n : Int} {ta : TE} (hC : St C) (hp : Γ[i]? = some .pool) (h : EvD ta Γ (.int n)) (h0 : 0 < n) (h1 : n < 1073741824) :
    EvI C (tCall sp__law_draw [] E (tCons (tVar i) (tCons ta tNil))) Γ (fun r => 0 ≤ r ∧ r < n) :=
  EvR.int (er_call hC hp (ear_d (ea_cons h ea_nil)) fun ds e => by
    subst e
    exact ⟨⟨n, rfl, h0, h1⟩, fun d ⟨m, r, e1, e2, e3, e4⟩ => by cases e1; exact ⟨r, ⟨e3, e4⟩, e2⟩⟩)
/-! ### its making -/
def sp__law_state (K : PySem.W.Frag) : Sp := fun vs H Q _ => ∃ (a : Addr) (ns : List Int), vs = [.ref a] ∧ FzL K [] H a (ns.map V.int) ∧ ns.length ≤ 63 ∧
  ∀ p g H', p ≠ g → H p = none → H g = none → (∀ b o, H b = some o → H' b = some o) → stPI p g H' → Q (.ref p) H'
theorem pure_state (vs : List V) (H : Hp) (Q : VK) (E : XK) (h : sp__law_state K vs H Q E) : t__law_state K w E { nx := fun _ H' => Q .non H', rt := Q } (L2.start ["script", "seed", "great", "k", "cell"] vs) H := by
  obtain ⟨a, ns, rfl, hz, hl, hq⟩ := h
  let F0 : Hp := fun _ => none
  have s0 : Sub F0 H := fun _ _ e => nomatch e
  have z0 : ∀ x : Int, 0 ≤ x % 2305843009213693951 := fun x => Int.emod_nonneg _ (by decide)
  have z1 : ∀ x : Int, x % 2305843009213693951 < 2305843009213693951 := fun x => Int.emod_lt_of_pos _ (by decide)
  -- behind the loop: the list itself goes into the new one
  have last : ∀ D : Ends, (∀ p g us H', p ≠ g → H p = none → H g = none → (∀ b o, H b = some o → H' b = some o) → stPI p g H' → us = us → D.rt (.ref p) H') → ∀ (s : Int) (gs : List Int) (x y : Sl), 0 ≤ s → s < 2305843009213693951 → (∀ x ∈ gs, 0 < x) → gs.length ≤ 63 →
      At pc0 H F0 [.fz K a (ns.map V.int), .dat (.int s), .own (gs.map .int), x, y] (tRet (tLst (tCons (tVar 2) (tCons (tC (.int 0)) (tCons (tVar 1) (tCons (tC (.int 0)) tNil))))) D) := fun D hr s gs x y h1 h2 h3 h4 F H' σ w gr e => by
    obtain ⟨g, us, e1, hg, hf, hb, _, ra⟩ := e.ok 2 _ rfl
    obtain ⟨v, e2, r2⟩ := e.get (i := 1) rfl
    rw [r2.int_inv] at e2
    refine ⟨_, e1, _, e2, by show 4 ≤ sizeLine; decide, fun p hp => ?_⟩
    have npg : p ≠ g := fun z => by subst z; rw [hp] at hg; cases hg
    have hk : ∀ b o, H b = some o → upd H' p (.lst [.ref g, .int 0, .int s, .int 0]) b = some o := fun b o eb => by
      have eb' := gr.hh b o List.not_mem_nil eb
      rw [upd_ne (fun z => by subst z; rw [hp] at eb'; cases eb')]; exact eb'
    refine hr p g () _ npg (gr.fresh hp) hb hk ⟨0, s, 0, gs, upd_same, ?_, Int.le_refl _, h1, h2, h3, by omega⟩ rfl
    rw [upd_ne (Ne.symm npg), hg, ra.ints]
  have main : ∀ D : Ends, (∀ p g us H', p ≠ g → H p = none → H g = none → (∀ b o, H b = some o → H' b = some o) → stPI p g H' → us = us → D.rt (.ref p) H') → At pc0 H F0 [.fz K a (ns.map V.int), .no, .no, .no, .no] (t__law_state K w E D) := fun D hr => by
    refine at_asg ev_int (at_asgN (en_lst ea_nil (by decide)) ?_)
    refine at_forR (xs := List.range ns.length) (enc := fun i : Nat => .int i) (vs := [3]) (fun i Γ => ∃ (s : Int) (g : List Int) (x y : Sl), Γ = [.fz K a (ns.map V.int), .dat (.int s), .own (g.map .int), x, y] ∧ 0 ≤ s ∧ s < 2305843009213693951 ∧ (∀ x ∈ g, 0 < x) ∧ g.length ≤ i)
      ⟨1181783497276652981, [], .no, .no, rfl, by decide, by decide, by simp, Nat.le_refl _⟩ (if_rngN ((ev_min2 (ev_lenZ rfl) ev_int).is (by rw [List.length_map]; congr 1; rw [if_neg (by omega)])) (by omega)) (fun i Γ => Γ.set 3 (.dat (.int i)))
      (fun i x Γ _ _ => tg_name List.mem_cons_self) ?_ ?_
    · rintro i x Γ hx ⟨s, g, z, z2, rfl, h1, h2, h3, h4⟩ F1 H1 gr D' e1 e2 e3 e4
      have hi : i < ns.length := by
        have := (List.getElem?_eq_some_iff.mp hx).1
        simpa using this
      rw [List.getElem?_range hi] at hx
      cases hx
      obtain ⟨m, hm⟩ : ∃ m, ns[i]? = some m := ⟨_, List.getElem?_eq_getElem hi⟩
      refine at_asg (ev_ixZ rfl (ev_var rfl) hm) ?_
      refine at_seq (at_if (et_test (ev_ge (ev_var rfl) (ev_pow ev_int ev_int ⟨by decide, by decide, by decide⟩))) (fun hb => ?_) fun hb => ?_)
      · have hb' := of_decide_eq_true hb
        have hb2 : (1000000000000000000 : Int) ≤ m := hb'
        refine at_append (ds := g.map .int) rfl (by rw [List.length_map]; omega) (ev_var rfl) ?_
        refine at_asg (ev_mod (ev_cint (ev_add (ev_add (ev_mul (ev_var rfl) (ev_var rfl) (.inl ⟨by omega, by omega⟩)) (ev_var rfl)) (ev_var rfl))) ev_int (by decide)) (e2 _ ?_)
        refine ⟨(s * s + m + (i : Int)) % 2305843009213693951, g ++ [m], .dat (.int i), .dat (.int m), by rw [List.map_append]; rfl, z0 _, z1 _, fun x hx => ?_, by rw [List.length_append]; exact Nat.succ_le_succ h4⟩
        rcases List.mem_append.mp hx with h | h
        · exact h3 x h
        · rw [List.mem_singleton.mp h]; omega
      · refine at_next ?_
        refine at_asg (ev_mod (ev_cint (ev_add (ev_add (ev_mul (ev_var rfl) (ev_var rfl) (.inl ⟨by omega, by omega⟩)) (ev_var rfl)) (ev_var rfl))) ev_int (by decide)) (e2 _ ⟨_, g, _, _, rfl, z0 _, z1 _, h3, Nat.le_succ_of_le h4⟩)
    · rintro Γ ⟨s, g, z, z2, rfl, h1, h2, h3, h4⟩
      rw [List.length_range] at h4
      exact last D hr s g z z2 h1 h2 h3 (by omega)
  refine main _ (fun p g _ H' hpg h1 h2 h3 h4 _ => hq p g H' hpg h1 h2 h3 h4) F0 H _ (wd0 s0) (.refl s0) ⟨rfl, ?_, ?_⟩
  · intro i s e
    match i, e with
    | 0, e => cases e; exact ⟨rfl, hz⟩
    | 1, e => cases e; trivial
    | 2, e => cases e; trivial
    | 3, e => cases e; trivial
    | 4, e => cases e; trivial
    | n + 5, e => cases e
  · intro i j ds es p e
    match i, e with
    | 0, e => cases e
    | 1, e => cases e
    | 2, e => cases e
    | 3, e => cases e
    | 4, e => cases e
    | n + 5, e => cases e
/-- the law's body behind its first statement -/
theorem law_state {rest : TS} {N : List Str} {a : Addr} {ns : List Int} {H : Hp} {Q : VK} (hN : 2 ≤ N.length) (hz : FzL K [] H a (ns.map V.int)) (hl : ns.length ≤ 63) (hq : ∀ H', Q (.bl true) H')
    (hb : ∀ (p g : Addr) (B : Hp) (D : Ends), St (stC p g) → RetOk (stC p g) B (fun _ => none) D (fun d => d = .bool true) → At (stC p g) B (fun _ => none) (.no :: .pool :: List.replicate (N.length - 2) .no) (rest D)) :
    tSeq (tAsg (tCall (sp__law_state K) [] E (tCons (tVar 0) tNil)) (gName 1)) rest { nx := fun _ H' => Q .non H', rt := Q } (L2.start N [.ref a]) H := by
  refine ⟨.ref a, rfl, a, ns, rfl, hz, hl, fun p g H' hpg hn hn2 hsub hpi => ?_⟩
  let F0 : Hp := fun _ => none
  have hwd : Wd (stC p g) F0 H' := ⟨(fun _ _ e => nomatch e), hpi, fun _ _ => rfl, fun b hb => by
    obtain ⟨t, s, n, gs, e1, e2, _⟩ := hpi
    have hb' : b = p ∨ b = g := by
      have : b ∈ [p, g] := hb
      simpa using this
    rcases hb' with rfl | rfl
    · rw [e1]; exact fun z => nomatch z
    · rw [e2]; exact fun z => nomatch z⟩
  have gm : Gm (stC p g) H' F0 H' ((L2.start N [.ref a]).set 1 (some (.ref p))) (.no :: .pool :: List.replicate (N.length - 2) .no) := by
    have hlen : (L2.start N [.ref a]).length = N.length := by unfold L2.start; simp; omega
    refine ⟨by rw [List.length_set, hlen]; simp; omega, fun i s e => ?_, fun i j ds es q e => ?_⟩
    · match i, e with
      | 0, e => cases e; trivial
      | 1, e =>
        cases e
        show _ = _
        rw [List.getElem?_set, if_pos rfl, if_pos (by rw [hlen]; omega)]; rfl
      | n + 2, e =>
        rw [List.getElem?_cons_succ, List.getElem?_cons_succ, List.getElem?_replicate] at e
        split at e
        · cases e; trivial
        · cases e
    · match i, e with
      | 0, e => cases e
      | 1, e => cases e
      | n + 2, e =>
        rw [List.getElem?_cons_succ, List.getElem?_cons_succ, List.getElem?_replicate] at e
        split at e <;> cases e
  exact hb p g H' { nx := fun _ H' => Q .non H', rt := Q } ⟨p, g, hpg, rfl⟩ (fun F H2 v d _ _ e r => by
    subst e
    rw [r.bl_inv]
    exact hq H2) F0 H' _ hwd (.refl hwd.sub) gm
end
end Eh

namespace Eh
open PySem PySem.Spec PyProof.Rows L2
/-! ### a draw -/
@[irreducible] def W__law_draw (n : PyData) (rt : PyData → Prop) (er : XP) : Prop := drawW n rt
theorem conv_draw {A : Str → Addr} {vs : List V} {H : Hp} {Q : VK} {E : XK} (h : spP A St (vl1 W__law_draw) vs H Q E) : sp__law_draw vs H Q E := by
  obtain ⟨C, F, ws, ds, P, X, hf, e, w, r, hW, hok, _⟩ := h
  obtain ⟨a, rfl, hd⟩ := vl1_inv hW
  unfold W__law_draw drawW at hd
  split at hd
  · rename_i n
    obtain ⟨h1, h2, h3⟩ := hd
    exact ⟨C, F, ws, _, hf, e, w, r, ⟨n, rfl, h1, h2⟩, fun v F' H' d g w' ⟨m, q, e1, e2, e3, e4⟩ rv => by
      cases e1
      subst e2
      exact hok _ v F' H' (h3 q e3 e4) g w' rv⟩
  · exact hd.elim
theorem P__law_draw {A : Str → Addr} {K : PySem.W.Frag} {w : World} (vs : List V) (H : Hp) (Q : VK) (E : XK) (h : spP A St (vl1 W__law_draw) vs H Q E) : t__law_draw K w E { nx := fun _ H' => Q .non H', rt := Q } (L2.start ["state", "many", "at"] vs) H := pure_draw vs H Q E (conv_draw h)
def sp_law (K : PySem.W.Frag) : Sp := fun vs H Q _ => ∃ (a : Addr) (ns : List Int), vs = [.ref a] ∧ FzL K [] H a (ns.map V.int) ∧ ns.length ≤ 63 ∧ ∀ H', Q (.bl true) H'
theorem fz_of {K : PySem.W.Frag} {H : Hp} {a : Addr} {xs : List V} (o : Only H) (h : SqL K H a xs) : FzL K [] H a xs := by
  rcases h with (h | ⟨u, h⟩) | h
  · rcases o a with z | ⟨u, ys, z⟩
    · rw [h] at z; cases z
    · rw [h] at z; cases z
  · exact .inl ⟨u, h, List.not_mem_nil⟩
  · exact .inr h
end Eh

namespace Eh
open PySem PySem.Spec PyProof.Rows L2
/-! ### new lists in a new list, not yet standing for good -/
variable {A : Str → Addr} {C : Pc} {E : L2.St → XK} {Γ Γ' : List Sl} {K : PySem.W.Frag} {w : World}
abbrev Rws := List (Addr × List V × List PyData)
def refsOf (ts : Rws) : List V := ts.map fun t => .ref t.1
def dataOf (ts : Rws) : List PyData := ts.map fun t => .list t.2.2
structure Raw (C : Pc) (B F H : Hp) (p : Addr) (ts : Rws) : Prop where
  pb : B p = none
  pf : F p = none
  ps : p ∉ C.S
  ph : H p = some (.lst (refsOf ts))
  nd : (ts.map (·.1)).Nodup
  ok : ∀ t ∈ ts, t.1 ≠ p ∧ B t.1 = none ∧ F t.1 = none ∧ t.1 ∉ C.S ∧ H t.1 = some (.lst t.2.1) ∧ RpAll F t.2.1 t.2.2
theorem freezeL {B F0 H : Hp} {S : List Addr} : ∀ (ts : Rws) (F : Hp), (ts.map (·.1)).Nodup → (∀ t ∈ ts, B t.1 = none ∧ F t.1 = none ∧ t.1 ∉ C.S ∧ H t.1 = some (.lst t.2.1) ∧ RpAll F t.2.1 t.2.2) → Grow C.S F0 B F H → Wd C F H →
    ∃ F', Grow C.S F0 B F' H ∧ Wd C F' H ∧ Sub F F' ∧ RpAll F' (refsOf ts) (dataOf ts) ∧ ∀ a, a ∉ ts.map (·.1) → F' a = F a
  | [], F, _, _, g, wd => ⟨F, g, wd, .refl F, .nil, fun _ _ => rfl⟩
  | (q, us, ds) :: ts, F, nd, ok, g, wd => by
    rw [List.map_cons, List.nodup_cons] at nd
    obtain ⟨h1, h2, h3, h4, h5⟩ := ok _ List.mem_cons_self
    have sF : Sub F (upd F q (.lst us)) := Sub.new h2
    obtain ⟨F', g', wd', s', r', o'⟩ := freezeL (S := S) ts (upd F q (.lst us)) nd.2 (fun t ht => by
      obtain ⟨k1, k2, k3, k4, k5⟩ := ok t (List.mem_cons_of_mem _ ht)
      have ne : t.1 ≠ q := fun z => nd.1 (z ▸ List.mem_map.mpr ⟨t, ht, rfl⟩)
      exact ⟨k1, by rw [upd_ne ne]; exact k2, k3, k4, k5.mono sF⟩) (g.freeze h1 h4 h2) (wd.freeze h3 h4 h2)
    refine ⟨F', g', wd', sF.trans s', .cons (.lst (s' _ _ upd_same) ((h5.mono sF).mono s')) r', fun a ha => ?_⟩
    rw [List.map_cons, List.mem_cons, not_or] at ha
    rw [o' a ha.2, upd_ne ha.1]
theorem Raw.freeze {B F0 F H : Hp} {p : Addr} {ts : Rws} (R : Raw C B F H p ts) (g : Grow C.S F0 B F H) (wd : Wd C F H) : ∃ F', Grow C.S F0 B F' H ∧ Wd C F' H ∧ Sub F F' ∧ Rp F' (.ref p) (.list (dataOf ts)) := by
  obtain ⟨F', g', wd', s', r', o'⟩ := freezeL (S := C.S) ts F R.nd (fun t ht => (R.ok t ht).2) g wd
  have np : p ∉ ts.map (·.1) := fun hp => by
    obtain ⟨t, ht, e⟩ := List.mem_map.mp hp
    exact (R.ok t ht).1 e
  have hp : F' p = none := (o' p np).trans R.pf
  exact ⟨upd F' p (.lst (refsOf ts)), g'.freeze R.pb R.ph hp, wd'.freeze R.ps R.ph hp, s'.trans (Sub.new hp), .lst upd_same (r'.mono (Sub.new hp))⟩
theorem Raw.grow {B B1 F1 F H : Hp} {p : Addr} {ts : Rws} (R : Raw C B F1 B1 p ts) (g : Grow C.S F1 B1 F H) : Raw C B F H p ts :=
  ⟨R.pb, g.nw p (by rw [R.ph]; exact fun z => nomatch z) R.pf, R.ps, g.hh _ _ R.ps R.ph, R.nd, fun t ht => by
    obtain ⟨k0, k1, k2, k3, k4, k5⟩ := R.ok t ht
    exact ⟨k0, k1, g.nw _ (by rw [k4]; exact fun z => nomatch z) k2, k3, g.hh _ _ k3 k4, k5.mono g.ff⟩⟩
/-- one of the rows changed -/
theorem Raw.set {B F H : Hp} {p : Addr} {ts : Rws} (R : Raw C B F H p ts) {j : Nat} {q : Addr} {us us' : List V} {ds ds' : List PyData} (h : ts[j]? = some (q, us, ds)) (r : RpAll F us' ds') : Raw C B F (upd H q (.lst us')) p (ts.set j (q, us', ds')) := by
  have hm := List.mem_of_getElem? h
  obtain ⟨k0, k1, k2, k3, k4, k5⟩ := R.ok _ hm
  have e1 : (ts.set j (q, us', ds')).map (·.1) = ts.map (·.1) := by
    rw [List.map_set]
    refine List.ext_getElem? fun i => ?_
    rw [List.getElem?_set]
    by_cases hi : j = i
    · subst hi
      rw [if_pos rfl, List.getElem?_map, h]
      have : j < (ts.map (·.1)).length := by rw [List.length_map]; exact (List.getElem?_eq_some_iff.mp h).1
      rw [if_pos this]; rfl
    · rw [if_neg hi]
  refine ⟨R.pb, R.pf, R.ps, ?_, by rw [e1]; exact R.nd, fun t ht => ?_⟩
  · rw [upd_ne (Ne.symm k0), R.ph]
    have : refsOf (ts.set j (q, us', ds')) = refsOf ts := by
      unfold refsOf
      have := congrArg (List.map V.ref) e1
      rwa [List.map_map, List.map_map] at this
    rw [this]
  · obtain ⟨i, hi⟩ := List.getElem?_of_mem ht
    rw [List.getElem?_set] at hi
    by_cases hj : j = i
    · subst hj
      rw [if_pos rfl, if_pos (List.getElem?_eq_some_iff.mp h).1] at hi
      cases hi
      exact ⟨k0, k1, k2, k3, upd_same, r⟩
    · rw [if_neg hj] at hi
      obtain ⟨m0, m1, m2, m3, m4, m5⟩ := R.ok t (List.mem_of_getElem? hi)
      have ne : t.1 ≠ q := fun z => hj (by
        have a1 : (ts.map (·.1))[j]? = some q := by rw [List.getElem?_map, h]; rfl
        have a2 : (ts.map (·.1))[i]? = some q := by rw [List.getElem?_map, hi]; show some t.1 = _; rw [z]
        obtain ⟨l1, b1⟩ := List.getElem?_eq_some_iff.mp a1
        obtain ⟨l2, b2⟩ := List.getElem?_eq_some_iff.mp a2
        exact (List.getElem_inj R.nd).mp (b1.trans b2.symm))
      exact ⟨m0, m1, m2, m3, by rw [upd_ne ne]; exact m4, m5⟩
theorem Gm.rebase {B B' F H : Hp} {σ : L2.St} (g : Gm C B F H σ Γ) (no : ∀ s ∈ Γ, ∀ ds, s ≠ .own ds) : Gm C B' F H σ Γ := by
  refine ⟨g.len, fun i s e => ?_, fun i j ds es p e1 _ _ _ => absurd rfl (no _ (List.mem_of_getElem? e1) ds)⟩
  have k := g.ok i s e
  cases s with
  | own ds => exact absurd rfl (no _ (List.mem_of_getElem? e) ds)
  | no => trivial
  | dat d => exact k
  | pool => exact k
  | fz K a xs => exact k
  | ref a => exact k
section
variable {te : TE} {l : WL} {i : Nat} {N0 b0 c0 : L2.St → Hp → Prop} {r0 : VK} {B F0 : Hp} {X : XP} {e : XK}
theorem raw_lcM {wi : TI} {g : TG} {vs : List Nat} {body : PyData → DP → Prop} {P : List PyData → Prop} (hi : Iw A C E wi Γ l)
    (hb : ∀ x Y, body x Y → ∃ Γx ml, TgD g vs (wipeG Γ vs) x Γx ∧ Nw A C (fun _ => E0) te Γx ml ∧ ml (fun ds => fzW ds Y) noX) (hm : l (fun items => lcMW items body P) X) :
    ∀ (B F H : Hp) (σ : L2.St), Wd C F H → Gm C B F H σ Γ → ∀ Q : VK, (∀ p F' H' ts, Grow C.S F H F' H' → Wd C F' H' → P (dataOf ts) → Raw C H F' H' p ts → Q (.ref p) H') → XOk A C F H (E σ) X → tLc wi g tYes te vs σ H Q := fun B F H σ wd gm Q q xo =>
  hi _ X hm B F H σ wd gm _ (fun J F1 H1 xs g1 w1 hP wk D hD => by
    obtain ⟨hz, hgo⟩ := hP
    have e1 := gm.grow g1
    have nS : D ∉ C.S := fun z => w1.sH D z hD
    have nox : ∀ F H, XOk A C F H E0 noX := fun _ _ _ _ _ _ _ _ _ _ z => z.elim
    have mv : ∀ {F' H' : Hp} {acc : List V}, Grow C.S F1 H1 F' H' → F' D = none → H1 D = none → Grow C.S F1 H1 F' (upd H' D (.lst acc)) := fun {F' H' acc} gg f3 hD =>
      ⟨gg.ff, fun a o e => by
        have z : a ≠ D := fun z => by subst z; rw [f3] at e; cases e
        rw [upd_ne z]; exact gg.fh a o e, fun a o n e => by
        have z : a ≠ D := fun z => by subst z; rw [hD] at e; cases e
        rw [upd_ne z]; exact gg.hh a o n e, fun a e => upd_th (gg.th a e), gg.nw⟩
    refine ⟨fun i m H' => i + m = xs.length ∧ ∃ F' ts, Grow C.S F1 H1 F' H' ∧ Wd C F' H' ∧ Raw C H1 F' H' D ts ∧ ts.length ≤ i ∧ lcGo (fun x Y _ => body x Y) (xs.drop i) fun l => P (dataOf ts ++ l),
      ⟨xs.length, by omega, F1, [], .newM g1.fh hD, w1.grow (.newM g1.fh hD), ⟨hD, g1.fh.none hD, nS, upd_same, List.nodup_nil, fun t ht => absurd ht List.not_mem_nil⟩, Nat.le_refl _, hgo⟩, fun i m H' ⟨hm, F', ts, g2, w2, R, hle, gen⟩ => ?_⟩
    by_cases hlt : i < xs.length
    · refine .inr ?_
      obtain ⟨x, hx⟩ : ∃ x, xs[i]? = some x := ⟨_, List.getElem?_eq_getElem hlt⟩
      have hdr : xs.drop i = x :: xs.drop (i + 1) := by
        rw [← (List.getElem?_eq_some_iff.mp hx).2, List.getElem_cons_drop]
      rw [hdr] at gen
      obtain ⟨Γx, ml, hg, he, hml⟩ := hb x _ gen
      obtain ⟨go, yl⟩ := (wk F' H' g2).1 i x hx
      refine ⟨go, fun H'' => ∃ F'' ts, Grow C.S F1 H1 F'' H'' ∧ Wd C F'' H'' ∧ Raw C H1 F'' H'' D ts ∧ ts.length ≤ i + 1 ∧ lcGo (fun x Y _ => body x Y) (xs.drop (i + 1)) fun l => P (dataOf ts ++ l), fun H'' h'' => ⟨m - 1, by omega, by omega, h''⟩, fun v H'' y => ?_⟩
      obtain ⟨F'', g3, rv⟩ := yl v H'' y
      have g23 := g2.trans g3.weak
      have R3 := R.grow (g3.weak : Grow C.S F' H' F'' H'')
      refine hg C B F'' H'' (L2.wipe σ vs) v g3.fh ((e1.grow g23).wipe vs) rv _ fun σ' e2 hw => ⟨hw.trans (wipe_wipe σ vs), ?_⟩
      show te σ' H'' _
      refine he _ noX hml B F'' H'' σ' (w2.grow g3) e2 _ (fun u F4 H4 ds g5 w5 pd ⟨q0, us, eu, hn, hf, hs, hl, ru⟩ => ?_) (nox _ _)
      subst eu
      have gg := g23.trans g5
      have R4 := R3.grow g5
      have nD : q0 ≠ D := fun z => by
        subst z
        rw [R3.ph] at hn; cases hn
      have nin : q0 ∉ ts.map (·.1) := fun hq => by
        obtain ⟨t, ht, e⟩ := List.mem_map.mp hq
        have := (R3.ok t ht).2.2.2.2.1
        rw [e, hn] at this; cases this
      have f4 := R4.pf
      refine ⟨refsOf ts, R4.ph, ?_, F4, ts ++ [(q0, us, ds)], mv gg f4 hD, w5.mut nS f4, ⟨hD, f4, nS, ?_, ?_, fun t ht => ?_⟩, ?_, ?_⟩
      · unfold refsOf
        rw [List.length_map]
        exact Nat.lt_of_le_of_lt (Nat.le_trans hle (Nat.le_trans (Nat.le_of_lt hlt) hz)) (by decide)
      · rw [upd_same]; unfold refsOf; rw [List.map_append]; rfl
      · rw [List.map_append, List.nodup_append]
        refine ⟨R4.nd, by simp, fun a ha b hb => ?_⟩
        have hb' : b = q0 := by simpa using hb
        subst hb'
        exact fun z => nin (z ▸ ha)
      · rcases List.mem_append.mp ht with ht | ht
        · obtain ⟨m0, m1, m2, m3, m4, m5⟩ := R4.ok t ht
          exact ⟨m0, m1, m2, m3, by rw [upd_ne m0]; exact m4, m5⟩
        · rw [List.mem_singleton.mp ht]
          exact ⟨nD, g23.fresh hn, hf, hs, by rw [upd_ne nD]; exact hl, ru⟩
      · rw [List.length_append]; exact Nat.succ_le_succ hle
      · have e : (fun l => P (dataOf (ts ++ [(q0, us, ds)]) ++ l)) = fun l => P (dataOf ts ++ (.list ds :: l)) := funext fun l => by unfold dataOf; rw [List.map_append, List.append_assoc]; rfl
        rw [e]; exact pd
    · refine .inl ?_
      have ei : i = xs.length := by omega
      subst ei
      refine ⟨(wk F' H' g2).2, ?_⟩
      rw [List.drop_length] at gen
      have gen2 : P (dataOf ts ++ []) := gen
      rw [List.append_nil] at gen2
      refine q D F' H' ts (g1.trans g2) w2 gen2 ⟨g1.fresh hD, R.pf, R.ps, R.ph, R.nd, fun t ht => ?_⟩
      obtain ⟨m0, m1, m2, m3, m4, m5⟩ := R.ok t ht
      exact ⟨m0, g1.fresh m1, m2, m3, m4, m5⟩) xo
theorem Raw.back {B B1 F H F0 : Hp} {p : Addr} {ts : Rws} (R : Raw C B1 F H p ts) (g : Grow C.S F0 B F0 B1) : True := trivial
/-- the assignment: from there on over the heap that stands behind it -/
theorem aw_raw {wi : TI} {g : TG} {vs : List Nat} {body : PyData → DP → Prop} {P : List PyData → Prop} (no : ∀ s ∈ Γ, ∀ ds, s ≠ .own ds) (hi : Iw A C E wi Γ l)
    (hb : ∀ x Y, body x Y → ∃ Γx ml, TgD g vs (wipeG Γ vs) x Γx ∧ Nw A C (fun _ => E0) te Γx ml ∧ ml (fun ds => fzW ds Y) noX) (hx : RaiseT A C B F0 Γ E X) (hm : l (fun items => lcMW items body P) X)
    (k : ∀ p ts B1 F1, Grow C.S F0 B F1 B1 → Raw C B F1 B1 p ts → P (dataOf ts) → At C B1 F1 (Γ.set i (.ref p)) N0) : At C B F0 Γ (tAsg (tLc wi g tYes te vs) (gName i) (Ends.mk N0 r0 b0 c0)) := fun F H σ wd gr gm =>
  raw_lcM (te := te) hi hb hm B F H σ wd gm _ (fun p F' H' ts g1 w1 hP R => by
    have R' : Raw C B F' H' p ts := ⟨gr.fresh R.pb, R.pf, R.ps, R.ph, R.nd, fun t ht => by
      obtain ⟨m0, m1, m2, m3, m4, m5⟩ := R.ok t ht
      exact ⟨m0, gr.fresh m1, m2, m3, m4, m5⟩⟩
    have gm2 : Gm C H' F' H' σ Γ := (gm.grow g1).rebase no
    exact k p ts H' F' (gr.trans g1) R' hP F' H' _ w1 (.refl w1.sub) (gm2.set (s := .ref p) rfl fun _ z => nomatch z)) (hx.xo wd gr gm)
/-- .. and back, the rows standing for good -/
theorem thaw {p : Addr} {ts : Rws} {B1 F1 : Hp} {Z : L2.St → Hp → Prop} (g01 : Grow C.S F0 B F1 B1) (R : Raw C B F1 B1 p ts) (hp : Γ[i]? = some (.ref p)) (no : ∀ s ∈ Γ, ∀ ds, s ≠ .own ds) (k : At C B F0 (Γ.set i (.dat (.list (dataOf ts)))) Z) : At C B1 F1 Γ Z := fun F H σ wd gr gm => by
  obtain ⟨F', g', wd', s', rp⟩ := (R.grow gr).freeze (g01.trans gr) wd
  have hl : i < Γ.length := (List.getElem?_eq_some_iff.mp hp).1
  have gm1 : Gm C B F H σ Γ := gm.rebase no
  have e1 := gm1.ok i _ hp
  refine k F' H σ wd' g' ⟨by rw [List.length_set]; exact gm1.len, fun j s e => ?_, fun j k ds es q e => ?_⟩
  · rw [List.getElem?_set] at e
    by_cases hj : i = j
    · subst hj
      rw [if_pos rfl, if_pos hl] at e
      cases e
      exact ⟨_, e1, rp⟩
    · rw [if_neg hj] at e
      have k := gm1.ok j s e
      cases s with
      | own ds => exact absurd rfl (no _ (List.mem_of_getElem? e) ds)
      | no => trivial
      | dat d => obtain ⟨v, h1, h2⟩ := k; exact ⟨v, h1, h2.mono s'⟩
      | pool => exact k
      | fz K a xs => exact k
      | ref a => exact k
  · rw [List.getElem?_set] at e
    by_cases hj : i = j
    · subst hj; rw [if_pos rfl, if_pos hl] at e; cases e
    · rw [if_neg hj] at e; exact absurd rfl (no _ (List.mem_of_getElem? e) ds)
def rowW (bad i : PyData) (k : Nat → List PyData → Prop) : Prop := match bad, i with
  | .list xs, .int n => ∃ j row, ixN xs.length n = some j ∧ xs[j]? = some (.list row) ∧ k j row | _, _ => False
end
end Eh

namespace Eh
open PySem PySem.Spec PyProof.Rows L2
variable {A : Str → Addr} {K : PySem.W.Frag} {w : World}
def lsOf : PyData → List PyData | .list xs => xs | _ => []
def noOwnB : List Sl → Bool | [] => true | .own _ :: _ => false | _ :: r => noOwnB r
theorem noOwn_ok : ∀ {Γ : List Sl}, noOwnB Γ = true → ∀ s ∈ Γ, ∀ ds, s ≠ .own ds
  | [], _, s, hs, _ => absurd hs List.not_mem_nil
  | .own _ :: _, h, _, _, _ => nomatch h
  | .no :: Γ, h, s, hs, ds => (List.mem_cons.mp hs).elim (fun e => by subst e; exact fun z => nomatch z) fun hs => noOwn_ok (Γ := Γ) h s hs ds
  | .dat _ :: Γ, h, s, hs, ds => (List.mem_cons.mp hs).elim (fun e => by subst e; exact fun z => nomatch z) fun hs => noOwn_ok (Γ := Γ) h s hs ds
  | .pool :: Γ, h, s, hs, ds => (List.mem_cons.mp hs).elim (fun e => by subst e; exact fun z => nomatch z) fun hs => noOwn_ok (Γ := Γ) h s hs ds
  | .fz _ _ _ :: Γ, h, s, hs, ds => (List.mem_cons.mp hs).elim (fun e => by subst e; exact fun z => nomatch z) fun hs => noOwn_ok (Γ := Γ) h s hs ds
  | .ref _ :: Γ, h, s, hs, ds => (List.mem_cons.mp hs).elim (fun e => by subst e; exact fun z => nomatch z) fun hs => noOwn_ok (Γ := Γ) h s hs ds
abbrev N_is_integer : List Str := ["value"]
def t_is_integer (K : PySem.W.Frag) (w : World) (E : XK) : TS :=
  (tRet (tAndV (tCB (rIsi K) (tCons (tVar 0) (tCons (tC (.ty "int")) tNil))) (tNotV (tCB (rIsi K) (tCons (tVar 0) (tCons (tC (.ty "bool")) tNil))))))
@[irreducible] def W_is_integer (value : PyData) (rt : PyData → Prop) (er : XP) : Prop :=
  andVW (fun k1 => isIntW value fun t1 => k1 t1) (fun k2 => isBlW value fun t2 => notW t2 fun t3 => k2 t3) fun t4 => rt t4
theorem P_is_integer (vs : List V) (H : Hp) (Q : VK) (E : XK) (h : spF A (vl1 W_is_integer) vs H Q E) : t_is_integer K w E { nx := fun _ H' => Q .non H', rt := Q } (L2.start N_is_integer vs) H :=
  spF_body (N := N_is_integer) (t := fun E => t_is_integer K w E) h fun ds rt er B F0 D hW hr hx hn => by
    obtain ⟨value, rfl, h⟩ := vl1_inv hW
    unfold W_is_integer at h
    show At pc0 B F0 [.dat value] (t_is_integer K w E D)
    exact aw_ret hr (ew_andV (ew_isInt (ew_var rfl)) (ew_notV (ew_isBl (ew_var rfl)))) (RaiseW.tt0 hx) h
abbrev N_is_listed : List Str := ["values", "value"]
def t_is_listed (K : PySem.W.Frag) (w : World) (sp_is_integer : Sp) (E : XK) : TS :=
  (tRet (tAndV (tCB (rIsiT K) (tCons (tVar 0) (tCons (tTup (tCons (tC (.ty "list")) (tCons (tC (.ty "tuple")) tNil))) tNil))) (tCB (rAll K) (tCons (tLc (iSeq K (tVar 0)) (gName 1) tYes (tCall sp_is_integer [] E0 (tCons (tVar 1) tNil)) [1]) tNil))))
@[irreducible] def W_is_listed (values : PyData) (rt : PyData → Prop) (er : XP) : Prop :=
  andVW (fun k1 => isLTW values fun t1 => k1 t1) (fun k2 => seqW values fun l1 => lcMW l1 (fun value Y => W_is_integer value (fun t2 => Y t2) noX) fun l2 => allW l2 fun t3 => k2 t3) fun t4 => rt t4
theorem P_is_listed (vs : List V) (H : Hp) (Q : VK) (E : XK) (h : spF A (vl1 W_is_listed) vs H Q E) : t_is_listed K w (spF A (vl1 W_is_integer)) E { nx := fun _ H' => Q .non H', rt := Q } (L2.start N_is_listed vs) H :=
  spF_body (N := N_is_listed) (t := fun E => t_is_listed K w (spF A (vl1 W_is_integer)) E) h fun ds rt er B F0 D hW hr hx hn => by
    obtain ⟨values, rfl, h⟩ := vl1_inv hW
    unfold W_is_listed at h
    show At pc0 B F0 [.dat values, .no] (t_is_listed K w (spF A (vl1 W_is_integer)) E D)
    exact aw_ret hr (ew_andV (ew_isLT (ew_var rfl)) (ew_all (Nw.ls (nw_lcM (iw_seq (Ew.s (ew_var rfl))) (fun x Y h => ⟨_, _, tg_name (by decide), (ew_call (aw_cons (ew_var rfl) aw_nil)), h⟩))))) (RaiseW.tt0 hx) h
abbrev N_is_from_to : List Str := ["value", "least", "most"]
def t_is_from_to (K : PySem.W.Frag) (w : World) (sp_is_integer : Sp) (E : XK) : TS :=
  (tRet (tAndV (tCall sp_is_integer [] E (tCons (tVar 0) tNil)) (tChain rLeI rLeI (tVar 1) (tVar 0) (tVar 2))))
@[irreducible] def W_is_from_to (value : PyData) (least : PyData) (most : PyData) (rt : PyData → Prop) (er : XP) : Prop :=
  andVW (fun k2 => W_is_integer value (fun t1 => k2 t1) er) (fun k3 => chainW leW leW least value (fun k1 => k1 most) fun t2 => k3 t2) fun t3 => rt t3
theorem P_is_from_to (vs : List V) (H : Hp) (Q : VK) (E : XK) (h : spF A (vl3 W_is_from_to) vs H Q E) : t_is_from_to K w (spF A (vl1 W_is_integer)) E { nx := fun _ H' => Q .non H', rt := Q } (L2.start N_is_from_to vs) H :=
  spF_body (N := N_is_from_to) (t := fun E => t_is_from_to K w (spF A (vl1 W_is_integer)) E) h fun ds rt er B F0 D hW hr hx hn => by
    obtain ⟨value, least, most, rfl, h⟩ := vl3_inv hW
    unfold W_is_from_to at h
    show At pc0 B F0 [.dat value, .dat least, .dat most] (t_is_from_to K w (spF A (vl1 W_is_integer)) E D)
    exact aw_ret hr (ew_andV (ew_call (aw_cons (ew_var rfl) aw_nil)) (ew_chain ov_le ov_le (ew_var rfl) (ew_var rfl) (ew_var rfl))) (RaiseW.tt0 hx) h
abbrev N_check_number : List Str := ["value", "least", "most"]
def t_check_number (K : PySem.W.Frag) (w : World) (C_BadNumber : Addr) (sp_is_from_to : Sp) (E : XK) : TS :=
  (tIfS (tNot (tB (tCall sp_is_from_to [] E (tCons (tVar 0) (tCons (tVar 1) (tCons (tVar 2) tNil)))))) (tRaiseC E C_BadNumber) tNext)
@[irreducible] def W_check_number (value : PyData) (least : PyData) (most : PyData) (rt : PyData → Prop) (er : XP) : Prop :=
  W_is_from_to value least most (fun t1 => boolW t1 fun b1 => iteW (!b1) (er "BadNumber" none) (rt .none)) er
theorem P_check_number (vs : List V) (H : Hp) (Q : VK) (E : XK) (h : spF A (vl3 W_check_number) vs H Q E) : t_check_number K w (A "BadNumber") (spF A (vl3 W_is_from_to)) E { nx := fun _ H' => Q .non H', rt := Q } (L2.start N_check_number vs) H :=
  spF_body (N := N_check_number) (t := fun E => t_check_number K w (A "BadNumber") (spF A (vl3 W_is_from_to)) E) h fun ds rt er B F0 D hW hr hx hn => by
    obtain ⟨value, least, most, rfl, h⟩ := vl3_inv hW
    unfold W_check_number at h
    show At pc0 B F0 [.dat value, .dat least, .dat most] (t_check_number K w (A "BadNumber") (spF A (vl3 W_is_from_to)) E D)
    refine aw_if (tw_not (tw_B (ew_call (aw_cons (ew_var rfl) (aw_cons (ew_var rfl) (aw_cons (ew_var rfl) aw_nil)))))) (RaiseW.tt0 hx) h (fun h => ?_) (fun h => ?_)
    · exact aw_raise "BadNumber" hx h
    · refine aw_next ?_
      exact hn h _
abbrev N_is_lot : List Str := ["value", "many", "least", "one"]
def t_is_lot (K : PySem.W.Frag) (w : World) (sp_is_from_to : Sp) (E : XK) : TS :=
  (tSeq (tIfS (tNot (tB (tCB (rIsi K) (tCons (tVar 0) (tCons (tC (.ty "tuple")) tNil))))) (tRet (tC (.bl false))) tNext)
    (tSeq (tAsg (tC (.int 0)) (gName 2))
    (tSeq (tFor (iSeq K (tVar 0)) (gName 3) (tSeq (tIfS (tNot (tB (tCall sp_is_from_to [] E (tCons (tVar 3) (tCons (tVar 2) (tCons (tOp rSubI (tVar 1) (tC (.int 1))) tNil)))))) (tRet (tC (.bl false))) tNext)
    (tAsg (tOp (rAddA K) (tVar 3) (tC (.int 1))) (gName 2))))
    (tRet (tC (.bl true))))))
@[irreducible] def W_is_lot (value : PyData) (many : PyData) (rt : PyData → Prop) (er : XP) : Prop :=
  isTupW value fun t1 => boolW t1 fun b1 => iteW (!b1) (rt (.bool false)) (letW (.int 0) fun least => seqW value fun l1 => forW (σ := PyData) (fun one s nx bk => subW many (.int 1) fun t4 => W_is_from_to one s t4 (fun t3 => boolW t3 fun b2 => iteW (!b2) (rt (.bool false)) (addW one (.int 1) fun least2 => nx least2)) er) (fun s => rt (.bool true)) l1 least)
theorem P_is_lot (vs : List V) (H : Hp) (Q : VK) (E : XK) (h : spF A (vl2 W_is_lot) vs H Q E) : t_is_lot K w (spF A (vl3 W_is_from_to)) E { nx := fun _ H' => Q .non H', rt := Q } (L2.start N_is_lot vs) H :=
  spF_body (N := N_is_lot) (t := fun E => t_is_lot K w (spF A (vl3 W_is_from_to)) E) h fun ds rt er B F0 D hW hr hx hn => by
    obtain ⟨value, many, rfl, h⟩ := vl2_inv hW
    unfold W_is_lot at h
    show At pc0 B F0 [.dat value, .dat many, .no, .no] (t_is_lot K w (spF A (vl3 W_is_from_to)) E D)
    refine aw_seq ?_
    refine aw_if (tw_not (tw_B (ew_isTup (ew_var rfl)))) (RaiseW.tt0 hx) h (fun h => ?_) (fun h => ?_)
    · exact aw_ret hr ew_bl (RaiseW.tt0 hx) h
    · refine aw_next ?_
      refine aw_seq ?_
      refine aw_asg (Γ' := fun least => [.dat value, .dat many, .dat least, .no]) (fun _ => rfl) (ew_let ew_int) (RaiseW.tt0 hx) h (fun least h => ?_)
      refine aw_seq ?_
      refine aw_for (σT := PyData) (vs := [3]) (fun s => [.dat value, .dat many, .dat s, .no]) (.keep (.keep (.keep (.keep .nil)))) (fw_seq (ew_var rfl)) (fun F0 D => RetOk pc0 B F0 D rt) (rok_chain hr) hx h (fun F0 one s nx bk D hr hx hn hc hb h => ?_) (fun s h => ?_)
      · refine ⟨[.dat value, .dat many, .dat s, .dat one], tg_name (by decide), ?_⟩
        refine aw_seq ?_
        refine aw_if (tw_not (tw_B (ew_call (aw_cons (ew_var rfl) (aw_cons (ew_var rfl) (aw_cons (ew_op ov_sub (ew_var rfl) ew_int) aw_nil)))))) (RaiseW.tt0 hx) h (fun h => ?_) (fun h => ?_)
        · exact aw_ret hr ew_bl (RaiseW.tt0 hx) h
        · refine aw_next ?_
          refine aw_asg (Γ' := fun least2 => [.dat value, .dat many, .dat least2, .dat one]) (fun _ => rfl) (ew_op ov_add (ew_var rfl) ew_int) (RaiseW.tt0 hx) h (fun least2 h => ?_)
          exact at_wk (.keep (.keep (.keep (.drop .nil)))) (hn _ h)
      · exact aw_ret hr ew_bl (RaiseW.tt0 hx) h
abbrev N_check_sights : List Str := ["sights", "sight", "number"]
def t_check_sights (K : PySem.W.Frag) (w : World) (C_BadWorlds : Addr) (sp_is_listed : Sp) (E : XK) : TS :=
  (tSeq (tIfS (tOr (tNot (tB (tCB (rIsiT K) (tCons (tVar 0) (tCons (tTup (tCons (tC (.ty "list")) (tCons (tC (.ty "tuple")) tNil))) tNil))))) (tNot (tTest (tChain rLeI rLeI (tC (.int 1)) (tCB (rLenA K) (tCons (tVar 0) tNil)) (tC (.int 4)))))) (tRaiseC E C_BadWorlds) tNext)
    (tSeq (tFor (iSeq K (tVar 0)) (gName 1) (tSeq (tIfS (tOr (tNot (tB (tCall sp_is_listed [] E (tCons (tVar 1) tNil)))) (tOr (tNot (tTest (tChain rLeI rLeI (tC (.int 1)) (tCB (rLenA K) (tCons (tVar 1) tNil)) (tC (.int 10))))) (tTest (tOp (rNeA K) (tCB (rLenA K) (tCons (tVar 1) tNil)) (tCB (rLenA K) (tCons (tOp (rIx K) (tVar 0) (tC (.int 0))) tNil)))))) (tRaiseC E C_BadWorlds) tNext)
    (tIfS (tNot (tB (tCB (rAll K) (tCons (tLc (iSeq K (tVar 1)) (gName 2) tYes (tOp rGeI (tVar 2) (tC (.int 0))) [2]) tNil)))) (tRaiseC E C_BadWorlds) tNext)))
    (tRet (tLc (iSeq K (tVar 0)) (gName 1) tYes (tThen (tVar 1) (kTup K)) [1]))))
@[irreducible] def W_check_sights (sights : PyData) (rt : List PyData → Prop) (er : XP) : Prop :=
  orW (fun k2 => isLTW sights fun t1 => boolW t1 fun b1 => k2 (!b1)) (fun k3 => seqW sights fun l1 => lenW l1 fun t2 => chainW leW leW (.int 1) t2 (fun k1 => k1 (.int 4)) fun t3 => boolW t3 fun b2 => k3 (!b2)) fun b3 => iteW b3 (er "BadWorlds" none) (seqW sights fun l2 => forW (σ := Unit) (fun sight s nx bk => orW (fun k7 => W_is_listed sight (fun t4 => boolW t4 fun b4 => k7 (!b4)) er) (fun k8 => orW (fun k5 => seqW sight fun l3 => lenW l3 fun t5 => chainW leW leW (.int 1) t5 (fun k4 => k4 (.int 10)) fun t6 => boolW t6 fun b5 => k5 (!b5)) (fun k6 => seqW sight fun l4 => lenW l4 fun t7 => seqW sights fun l5 => ixW l5 (.int 0) fun t8 => seqW t8 fun l6 => lenW l6 fun t9 => neW t7 t9 fun t10 => boolW t10 fun b6 => k6 b6) fun b7 => k8 b7) fun b8 => iteW b8 (er "BadWorlds" none) (seqW sight fun l7 => lcMW l7 (fun number Y => geW number (.int 0) fun t11 => Y t11) fun l8 => allW l8 fun t12 => boolW t12 fun b9 => iteW (!b9) (er "BadWorlds" none) (nx ()))) (fun s => seqW sights fun l9 => lcMW l9 (fun sight2 Y2 => seqW sight2 fun l10 => tupW l10 fun t13 => Y2 t13) fun l11 => rt l11) l2 ())
theorem P_check_sights (vs : List V) (H : Hp) (Q : VK) (E : XK) (h : spFN A (vl1 W_check_sights) vs H Q E) : t_check_sights K w (A "BadWorlds") (spF A (vl1 W_is_listed)) E { nx := fun _ H' => Q .non H', rt := Q } (L2.start N_check_sights vs) H :=
  spFN_body (N := N_check_sights) (t := fun E => t_check_sights K w (A "BadWorlds") (spF A (vl1 W_is_listed)) E) h fun ds rt er B F0 D hW hr hx => by
    obtain ⟨sights, rfl, h⟩ := vl1_inv hW
    unfold W_check_sights at h
    show At pc0 B F0 [.dat sights, .no, .no] (t_check_sights K w (A "BadWorlds") (spF A (vl1 W_is_listed)) E D)
    refine aw_seq ?_
    refine aw_if (tw_or (tw_not (tw_B (ew_isLT (ew_var rfl)))) (tw_not (tw_test (ew_chain ov_le ov_le ew_int (ew_len (Ew.s (ew_var rfl))) ew_int)))) (RaiseW.tt0 hx) h (fun h => ?_) (fun h => ?_)
    · exact aw_raise "BadWorlds" hx h
    · refine aw_next ?_
      refine aw_seq ?_
      refine aw_for (σT := Unit) (vs := [1]) (fun s => [.dat sights, .no, .no]) (.keep (.keep (.keep .nil))) (fw_seq (ew_var rfl)) (fun F0 D => RetN pc0 B F0 D rt) (ron_chain hr) hx h (fun F0 sight s nx bk D hr hx hn hc hb h => ?_) (fun s h => ?_)
      · refine ⟨[.dat sights, .dat sight, .no], tg_name (by decide), ?_⟩
        refine aw_seq ?_
        refine aw_if (tw_or (tw_not (tw_B (ew_call (aw_cons (ew_var rfl) aw_nil)))) (tw_or (tw_not (tw_test (ew_chain ov_le ov_le ew_int (ew_len (Ew.s (ew_var rfl))) ew_int))) (tw_test (ew_op ov_ne (ew_len (Ew.s (ew_var rfl))) (ew_len (Ew.s (ew_ix (Ew.s (ew_var rfl)) ew_int))))))) (RaiseW.tt0 hx) h (fun h => ?_) (fun h => ?_)
        · exact aw_raise "BadWorlds" hx h
        · refine aw_next ?_
          refine aw_if (tw_not (tw_B (ew_all (Nw.ls (nw_lcM (iw_seq (Ew.s (ew_var rfl))) (fun x Y h => ⟨_, _, tg_name (by decide), (ew_op ov_ge (ew_var rfl) ew_int), h⟩)))))) (RaiseW.tt0 hx) h (fun h => ?_) (fun h => ?_)
          · exact aw_raise "BadWorlds" hx h
          · refine aw_next ?_
            exact at_wk (.keep (.drop (.keep .nil))) (hn _ h)
      · exact aw_retN hr (nw_lcM (iw_seq (Ew.s (ew_var rfl))) (fun x Y h => ⟨_, _, tg_name (by decide), (ew_tupleD (ew_var rfl)), h⟩)) (RaiseW.tt0 hx) h
abbrev N_check_event : List Str := ["sights", "event"]
def t_check_event (K : PySem.W.Frag) (w : World) (C_BadWorlds : Addr) (sp_is_lot : Sp) (E : XK) : TS :=
  (tIfS (tNot (tB (tCall sp_is_lot [] E (tCons (tVar 1) (tCons (tCB (rLenA K) (tCons (tOp (rIx K) (tVar 0) (tC (.int 0))) tNil)) tNil))))) (tRaiseC E C_BadWorlds) tNext)
@[irreducible] def W_check_event (sights : PyData) (event : PyData) (rt : PyData → Prop) (er : XP) : Prop :=
  seqW sights fun l1 => ixW l1 (.int 0) fun t2 => seqW t2 fun l2 => lenW l2 fun t3 => W_is_lot event t3 (fun t1 => boolW t1 fun b1 => iteW (!b1) (er "BadWorlds" none) (rt .none)) er
theorem P_check_event (vs : List V) (H : Hp) (Q : VK) (E : XK) (h : spF A (vl2 W_check_event) vs H Q E) : t_check_event K w (A "BadWorlds") (spF A (vl2 W_is_lot)) E { nx := fun _ H' => Q .non H', rt := Q } (L2.start N_check_event vs) H :=
  spF_body (N := N_check_event) (t := fun E => t_check_event K w (A "BadWorlds") (spF A (vl2 W_is_lot)) E) h fun ds rt er B F0 D hW hr hx hn => by
    obtain ⟨sights, event, rfl, h⟩ := vl2_inv hW
    unfold W_check_event at h
    show At pc0 B F0 [.dat sights, .dat event] (t_check_event K w (A "BadWorlds") (spF A (vl2 W_is_lot)) E D)
    refine aw_if (tw_not (tw_B (ew_call (aw_cons (ew_var rfl) (aw_cons (ew_len (Ew.s (ew_ix (Ew.s (ew_var rfl)) ew_int))) aw_nil))))) (RaiseW.tt0 hx) h (fun h => ?_) (fun h => ?_)
    · exact aw_raise "BadWorlds" hx h
    · refine aw_next ?_
      exact hn h _
abbrev N_possible : List Str := ["sight", "world", "other", "number"]
def t_possible (K : PySem.W.Frag) (w : World) (E : XK) : TS :=
  (tRet (tThen (tLc (iEnumA K (tCons (tVar 0) tNil)) (gTup K 2 (gCons (gName 2) (gCons (gName 3) gNil))) (tTest (tOp (rEqA K) (tVar 3) (tOp (rIx K) (tVar 0) (tVar 1)))) (tVar 2) [2, 3]) (kTup K)))
@[irreducible] def W_possible (sight : PyData) (world : PyData) (rt : PyData → Prop) (er : XP) : Prop :=
  seqW sight fun l1 => letW (enumD l1) fun it1 => lcW it1 (fun x1 Y N => un2W x1 fun other number => seqW sight fun l2 => ixW l2 world fun t1 => eqW number t1 fun t2 => boolW t2 fun b1 => iteW b1 (Y other) N) fun l3 => tupW l3 fun t3 => rt t3
theorem P_possible (vs : List V) (H : Hp) (Q : VK) (E : XK) (h : spF A (vl2 W_possible) vs H Q E) : t_possible K w E { nx := fun _ H' => Q .non H', rt := Q } (L2.start N_possible vs) H :=
  spF_body (N := N_possible) (t := fun E => t_possible K w E) h fun ds rt er B F0 D hW hr hx hn => by
    obtain ⟨sight, world, rfl, h⟩ := vl2_inv hW
    unfold W_possible at h
    show At pc0 B F0 [.dat sight, .dat world, .no, .no] (t_possible K w E D)
    exact aw_ret hr (ew_tupleL (Nw.ls (nw_lc (iw_enum (Ew.s (ew_var rfl))) (fun x Y N h => by obtain ⟨_, _, h, tg⟩ := tg_un2 (vs := [2, 3]) (i := 2) (j := 3) (by decide) (by decide) h; exact ⟨_, _, _, tg, (tw_test (ew_op ov_eq (ew_var rfl) (ew_ix (Ew.s (ew_var rfl)) (ew_var rfl)))), (ew_var rfl), h⟩)))) (RaiseW.tt0 hx) h
abbrev N_known_at : List Str := ["sight", "event", "world", "other"]
def t_known_at (K : PySem.W.Frag) (w : World) (sp_possible : Sp) (E : XK) : TS :=
  (tRet (tThen (tLc (iRng1 (tCons (tCB (rLenA K) (tCons (tVar 0) tNil)) tNil)) (gName 2) (tB (tCB (rAll K) (tCons (tLc (iSeq K (tCall sp_possible [] E0 (tCons (tVar 0) (tCons (tVar 2) tNil)))) (gName 3) tYes (tOp (rInA K) (tVar 3) (tVar 1)) [3]) tNil))) (tVar 2) [2]) (kTup K)))
@[irreducible] def W_known_at (sight : PyData) (event : PyData) (rt : PyData → Prop) (er : XP) : Prop :=
  seqW sight fun l1 => lenW l1 fun t1 => rngW t1 fun it1 => lcW it1 (fun world Y2 N2 => W_possible sight world (fun t2 => seqW t2 fun l2 => lcMW l2 (fun other Y => seqW event fun l3 => inW other l3 fun t3 => Y t3) fun l4 => allW l4 fun t4 => boolW t4 fun b1 => iteW b1 (Y2 world) N2) noX) fun l5 => tupW l5 fun t5 => rt t5
theorem P_known_at (vs : List V) (H : Hp) (Q : VK) (E : XK) (h : spF A (vl2 W_known_at) vs H Q E) : t_known_at K w (spF A (vl2 W_possible)) E { nx := fun _ H' => Q .non H', rt := Q } (L2.start N_known_at vs) H :=
  spF_body (N := N_known_at) (t := fun E => t_known_at K w (spF A (vl2 W_possible)) E) h fun ds rt er B F0 D hW hr hx hn => by
    obtain ⟨sight, event, rfl, h⟩ := vl2_inv hW
    unfold W_known_at at h
    show At pc0 B F0 [.dat sight, .dat event, .no, .no] (t_known_at K w (spF A (vl2 W_possible)) E D)
    exact aw_ret hr (ew_tupleL (Nw.ls (nw_lc (Fw.it (fw_rng1 (ew_len (Ew.s (ew_var rfl))))) (fun x Y N h => ⟨_, _, _, tg_name (by decide), (tw_B (ew_all (Nw.ls (nw_lcM (iw_seq (Ew.s (ew_call (aw_cons (ew_var rfl) (aw_cons (ew_var rfl) aw_nil))))) (fun x Y h => ⟨_, _, tg_name (by decide), (ew_in (ew_var rfl) (Ew.s (ew_var rfl))), h⟩))))), (ew_var rfl), h⟩)))) (RaiseW.tt0 hx) h
abbrev N_known_by_all : List Str := ["sights", "event", "lots", "sight", "world", "lot"]
def t_known_by_all (K : PySem.W.Frag) (w : World) (sp_known_at : Sp) (E : XK) : TS :=
  (tSeq (tAsg (tLc (iSeq K (tVar 0)) (gName 3) tYes (tCall sp_known_at [] E0 (tCons (tVar 3) (tCons (tVar 1) tNil))) [3]) (gName 2))
    (tRet (tThen (tLc (iRng1 (tCons (tCB (rLenA K) (tCons (tOp (rIx K) (tVar 0) (tC (.int 0))) tNil)) tNil)) (gName 4) (tB (tCB (rAll K) (tCons (tLc (iSeq K (tVar 2)) (gName 5) tYes (tOp (rInA K) (tVar 4) (tVar 5)) [5]) tNil))) (tVar 4) [4]) (kTup K))))
@[irreducible] def W_known_by_all (sights : PyData) (event : PyData) (rt : PyData → Prop) (er : XP) : Prop :=
  seqW sights fun l1 => lcMW l1 (fun sight Y => W_known_at sight event (fun t1 => Y t1) noX) fun l2 => fzW l2 fun lots => seqW sights fun l3 => ixW l3 (.int 0) fun t3 => seqW t3 fun l4 => lenW l4 fun t4 => rngW t4 fun it2 => lcW it2 (fun world Y3 N3 => seqW lots fun l5 => lcMW l5 (fun lot Y2 => seqW lot fun l6 => inW world l6 fun t5 => Y2 t5) fun l7 => allW l7 fun t6 => boolW t6 fun b1 => iteW b1 (Y3 world) N3) fun l8 => tupW l8 fun t7 => rt t7
theorem P_known_by_all (vs : List V) (H : Hp) (Q : VK) (E : XK) (h : spF A (vl2 W_known_by_all) vs H Q E) : t_known_by_all K w (spF A (vl2 W_known_at)) E { nx := fun _ H' => Q .non H', rt := Q } (L2.start N_known_by_all vs) H :=
  spF_body (N := N_known_by_all) (t := fun E => t_known_by_all K w (spF A (vl2 W_known_at)) E) h fun ds rt er B F0 D hW hr hx hn => by
    obtain ⟨sights, event, rfl, h⟩ := vl2_inv hW
    unfold W_known_by_all at h
    show At pc0 B F0 [.dat sights, .dat event, .no, .no, .no, .no] (t_known_by_all K w (spF A (vl2 W_known_at)) E D)
    refine aw_seq ?_
    refine aw_asg (Γ' := fun lots => [.dat sights, .dat event, .dat lots, .no, .no, .no]) (fun _ => rfl) (Nw.fz (nw_lcM (iw_seq (Ew.s (ew_var rfl))) (fun x Y h => ⟨_, _, tg_name (by decide), (ew_call (aw_cons (ew_var rfl) (aw_cons (ew_var rfl) aw_nil))), h⟩))) (RaiseW.tt0 hx) h (fun lots h => ?_)
    exact aw_ret hr (ew_tupleL (Nw.ls (nw_lc (Fw.it (fw_rng1 (ew_len (Ew.s (ew_ix (Ew.s (ew_var rfl)) ew_int))))) (fun x Y N h => ⟨_, _, _, tg_name (by decide), (tw_B (ew_all (Nw.ls (nw_lcM (iw_seq (Ew.s (ew_var rfl))) (fun x Y h => ⟨_, _, tg_name (by decide), (ew_in (ew_var rfl) (Ew.s (ew_var rfl))), h⟩))))), (ew_var rfl), h⟩)))) (RaiseW.tt0 hx) h
abbrev N__law_whole : List Str := ["x"]
def t__law_whole (K : PySem.W.Frag) (w : World) (E : XK) : TS :=
  (tRet (tAndV (tCB (rIsi K) (tCons (tVar 0) (tCons (tC (.ty "int")) tNil))) (tNotV (tCB (rIsi K) (tCons (tVar 0) (tCons (tC (.ty "bool")) tNil))))))
@[irreducible] def W__law_whole (x1 : PyData) (rt : PyData → Prop) (er : XP) : Prop :=
  andVW (fun k1 => isIntW x1 fun t1 => k1 t1) (fun k2 => isBlW x1 fun t2 => notW t2 fun t3 => k2 t3) fun t4 => rt t4
theorem P__law_whole (vs : List V) (H : Hp) (Q : VK) (E : XK) (h : spF A (vl1 W__law_whole) vs H Q E) : t__law_whole K w E { nx := fun _ H' => Q .non H', rt := Q } (L2.start N__law_whole vs) H :=
  spF_body (N := N__law_whole) (t := fun E => t__law_whole K w E) h fun ds rt er B F0 D hW hr hx hn => by
    obtain ⟨x1, rfl, h⟩ := vl1_inv hW
    unfold W__law_whole at h
    show At pc0 B F0 [.dat x1] (t__law_whole K w E D)
    exact aw_ret hr (ew_andV (ew_isInt (ew_var rfl)) (ew_notV (ew_isBl (ew_var rfl)))) (RaiseW.tt0 hx) h
abbrev N__law_is_lot : List Str := ["value", "due", "k"]
def t__law_is_lot (K : PySem.W.Frag) (w : World) (sp__law_whole : Sp) (E : XK) : TS :=
  (tSeq (tIfS (tOr (tNot (tB (tCB (rIsi K) (tCons (tVar 0) (tCons (tC (.ty "tuple")) tNil))))) (tTest (tOp (rNeA K) (tCB (rLenA K) (tCons (tVar 0) tNil)) (tCB (rLenA K) (tCons (tVar 1) tNil))))) (tRet (tC (.bl false))) tNext)
    (tSeq (tFor (iRng1 (tCons (tCB (rLenA K) (tCons (tVar 1) tNil)) tNil)) (gName 2) (tIfS (tOr (tNot (tB (tCall sp__law_whole [] E (tCons (tOp (rIx K) (tVar 0) (tVar 2)) tNil)))) (tTest (tOp (rNeA K) (tOp (rIx K) (tVar 0) (tVar 2)) (tOp (rIx K) (tVar 1) (tVar 2))))) (tRet (tC (.bl false))) tNext))
    (tRet (tC (.bl true)))))
@[irreducible] def W__law_is_lot (value : PyData) (due : PyData) (rt : PyData → Prop) (er : XP) : Prop :=
  orW (fun k1 => isTupW value fun t1 => boolW t1 fun b1 => k1 (!b1)) (fun k2 => seqW value fun l1 => lenW l1 fun t2 => seqW due fun l2 => lenW l2 fun t3 => neW t2 t3 fun t4 => boolW t4 fun b2 => k2 b2) fun b3 => iteW b3 (rt (.bool false)) (seqW due fun l3 => lenW l3 fun t5 => rngW t5 fun it1 => forW (σ := Unit) (fun k3 s nx bk => orW (fun k4 => seqW value fun l4 => ixW l4 k3 fun t7 => W__law_whole t7 (fun t6 => boolW t6 fun b4 => k4 (!b4)) er) (fun k5 => seqW value fun l5 => ixW l5 k3 fun t8 => seqW due fun l6 => ixW l6 k3 fun t9 => neW t8 t9 fun t10 => boolW t10 fun b5 => k5 b5) fun b6 => iteW b6 (rt (.bool false)) (nx ())) (fun s => rt (.bool true)) it1 ())
theorem P__law_is_lot (vs : List V) (H : Hp) (Q : VK) (E : XK) (h : spF A (vl2 W__law_is_lot) vs H Q E) : t__law_is_lot K w (spF A (vl1 W__law_whole)) E { nx := fun _ H' => Q .non H', rt := Q } (L2.start N__law_is_lot vs) H :=
  spF_body (N := N__law_is_lot) (t := fun E => t__law_is_lot K w (spF A (vl1 W__law_whole)) E) h fun ds rt er B F0 D hW hr hx hn => by
    obtain ⟨value, due, rfl, h⟩ := vl2_inv hW
    unfold W__law_is_lot at h
    show At pc0 B F0 [.dat value, .dat due, .no] (t__law_is_lot K w (spF A (vl1 W__law_whole)) E D)
    refine aw_seq ?_
    refine aw_if (tw_or (tw_not (tw_B (ew_isTup (ew_var rfl)))) (tw_test (ew_op ov_ne (ew_len (Ew.s (ew_var rfl))) (ew_len (Ew.s (ew_var rfl)))))) (RaiseW.tt0 hx) h (fun h => ?_) (fun h => ?_)
    · exact aw_ret hr ew_bl (RaiseW.tt0 hx) h
    · refine aw_next ?_
      refine aw_seq ?_
      refine aw_for (σT := Unit) (vs := [2]) (fun s => [.dat value, .dat due, .no]) (.keep (.keep (.keep .nil))) (fw_rng1 (ew_len (Ew.s (ew_var rfl)))) (fun F0 D => RetOk pc0 B F0 D rt) (rok_chain hr) hx h (fun F0 k3 s nx bk D hr hx hn hc hb h => ?_) (fun s h => ?_)
      · refine ⟨[.dat value, .dat due, .dat k3], tg_name (by decide), ?_⟩
        refine aw_if (tw_or (tw_not (tw_B (ew_call (aw_cons (ew_ix (Ew.s (ew_var rfl)) (ew_var rfl)) aw_nil)))) (tw_test (ew_op ov_ne (ew_ix (Ew.s (ew_var rfl)) (ew_var rfl)) (ew_ix (Ew.s (ew_var rfl)) (ew_var rfl))))) (RaiseW.tt0 hx) h (fun h => ?_) (fun h => ?_)
        · exact aw_ret hr ew_bl (RaiseW.tt0 hx) h
        · refine aw_next ?_
          exact at_wk (.keep (.keep (.drop .nil))) (hn _ h)
      · exact aw_ret hr ew_bl (RaiseW.tt0 hx) h
abbrev N__law_order : List Str := ["state", "many", "left", "placed", "k"]
def t__law_order (K : PySem.W.Frag) (w : World) (sp__law_draw : Sp) (E : XK) : TS :=
  (tSeq (tAsg (tLstRg (tRg1 (tVar 1))) (gName 2))
    (tSeq (tAsg (tLst tNil) (gName 3))
    (tSeq (tFor (iRng1 (tCons (tVar 1) tNil)) (gName 4) (tDrop (tBM K "list" rAppend (tVar 3) (tCons (tBM K "list" rPopAt (tVar 2) (tCons (tCall sp__law_draw [] E (tCons (tVar 0) (tCons (tCB (rLenA K) (tCons (tVar 2) tNil)) tNil))) tNil)) tNil))))
    (tRet (tVar 3)))))
@[irreducible] def W__law_order (many : PyData) (rt : List PyData → Prop) (er : XP) : Prop :=
  rgLW many fun left => dispL [] fun placed => rngW many fun it1 => forW (σ := List PyData × List PyData) (fun k1 s nx bk => lenW s.2 fun t2 => W__law_draw t2 (fun t1 => popW s.2 t1 fun t3 left2 => appW s.1 t3 fun placed2 => nx (placed2, left2)) er) (fun s => rt s.1) it1 (placed, left)
theorem P__law_order (vs : List V) (H : Hp) (Q : VK) (E : XK) (h : spPN A St (vl1 W__law_order) vs H Q E) : t__law_order K w (spP A St (vl1 W__law_draw)) E { nx := fun _ H' => Q .non H', rt := Q } (L2.start N__law_order vs) H :=
  spPN_body (N := N__law_order) (t := fun E => t__law_order K w (spP A St (vl1 W__law_draw)) E) h fun C hF ds rt er B F0 D hW hr hx => by
    obtain ⟨many, rfl, h⟩ := vl1_inv hW
    unfold W__law_order at h
    show At C B F0 [.pool, .dat many, .no, .no, .no] (t__law_order K w (spP A St (vl1 W__law_draw)) E D)
    refine aw_seq ?_
    refine aw_asgN (Γ' := fun left => [.pool, .dat many, .own left, .no, .no]) (fun _ => rfl) (nw_rg (ew_var rfl)) (RaiseW.tt0 hx) h (fun left h => ?_)
    refine aw_seq ?_
    refine aw_asgN (Γ' := fun placed => [.pool, .dat many, .own left, .own placed, .no]) (fun _ => rfl) (nw_lst aw_nil) (RaiseW.tt0 hx) h (fun placed h => ?_)
    refine aw_seq ?_
    refine aw_for (σT := List PyData × List PyData) (vs := [4]) (fun s => [.pool, .dat many, .own s.2, .own s.1, .no]) (.keep (.keep (.keep (.keep (.keep .nil))))) (fw_rng1 (ew_var rfl)) (fun F0 D => RetN C B F0 D rt) (ron_chain hr) hx h (fun F0 k1 s nx bk D hr hx hn hc hb h => ?_) (fun s h => ?_)
    · refine ⟨[.pool, .dat many, .own s.2, .own s.1, .dat k1], tg_name (by decide), ?_⟩
      refine aw_popTo (Γ' := fun placed2 left2 => [.pool, .dat many, .own left2, .own placed2, .dat k1]) rfl rfl (by decide) (fun _ _ => rfl) (ew_callP hF rfl (aw_cons (ew_len (sw_own rfl)) aw_nil)) (RaiseW.tt0 hx) h (fun placed2 left2 h => ?_)
      exact at_wk (.keep (.keep (.keep (.keep (.drop .nil))))) (hn _ h)
    · exact aw_retO hr rfl h
abbrev N__law_named : List Str := ["state", "sight", "step", "base", "n"]
def t__law_named (K : PySem.W.Frag) (w : World) (sp__law_draw : Sp) (E : XK) : TS :=
  (tSeq (tAsg (tOp (rAddA K) (tC (.int 1)) (tCall sp__law_draw [] E (tCons (tVar 0) (tCons (tC (.int 3)) tNil)))) (gName 2))
    (tSeq (tIfS (tTest (tOp (rEqA K) (tCall sp__law_draw [] E (tCons (tVar 0) (tCons (tC (.int 2)) tNil))) (tC (.int 1)))) (tRet (tLc (iSeq K (tVar 1)) (gName 4) tYes (tOp rSubI (tC (.int 200)) (tOp (rMulA K) (tVar 2) (tVar 4))) [4])) tNext)
    (tSeq (tAsg (tOp (rIx K) (tLst (tCons (tC (.int 0)) (tCons (tC (.int 1)) (tCons (tOp rPowI (tC (.int 10)) (tC (.int 15))) tNil)))) (tCall sp__law_draw [] E (tCons (tVar 0) (tCons (tC (.int 3)) tNil)))) (gName 3))
    (tRet (tLc (iSeq K (tVar 1)) (gName 4) tYes (tOp (rAddA K) (tVar 3) (tOp (rMulA K) (tVar 2) (tVar 4))) [4])))))
@[irreducible] def W__law_named (sight : PyData) (rt : List PyData → Prop) (er : XP) : Prop :=
  W__law_draw (.int 3) (fun t1 => addW (.int 1) t1 fun step => W__law_draw (.int 2) (fun t3 => eqW t3 (.int 1) fun t4 => boolW t4 fun b1 => iteW b1 (seqW sight fun l1 => lcMW l1 (fun n Y => mulW step n fun t5 => subW (.int 200) t5 fun t6 => Y t6) fun l2 => rt l2) (powW (.int 10) (.int 15) fun t7 => dispL [(.int 0), (.int 1), t7] fun l3 => W__law_draw (.int 3) (fun t8 => ixW l3 t8 fun base => seqW sight fun l4 => lcMW l4 (fun n2 Y2 => mulW step n2 fun t10 => addW base t10 fun t11 => Y2 t11) fun l5 => rt l5) er)) er) er
theorem P__law_named (vs : List V) (H : Hp) (Q : VK) (E : XK) (h : spPN A St (vl1 W__law_named) vs H Q E) : t__law_named K w (spP A St (vl1 W__law_draw)) E { nx := fun _ H' => Q .non H', rt := Q } (L2.start N__law_named vs) H :=
  spPN_body (N := N__law_named) (t := fun E => t__law_named K w (spP A St (vl1 W__law_draw)) E) h fun C hF ds rt er B F0 D hW hr hx => by
    obtain ⟨sight, rfl, h⟩ := vl1_inv hW
    unfold W__law_named at h
    show At C B F0 [.pool, .dat sight, .no, .no, .no] (t__law_named K w (spP A St (vl1 W__law_draw)) E D)
    refine aw_seq ?_
    refine aw_asg (Γ' := fun step => [.pool, .dat sight, .dat step, .no, .no]) (fun _ => rfl) (ew_op ov_add ew_int (ew_callP hF rfl (aw_cons ew_int aw_nil))) (RaiseW.tt0 hx) h (fun step h => ?_)
    refine aw_seq ?_
    refine aw_if (tw_test (ew_op ov_eq (ew_callP hF rfl (aw_cons ew_int aw_nil)) ew_int)) (RaiseW.tt0 hx) h (fun h => ?_) (fun h => ?_)
    · exact aw_retN hr (nw_lcM (iw_seq (Ew.s (ew_var rfl))) (fun x Y h => ⟨_, _, tg_name (by decide), (ew_op ov_sub ew_int (ew_op ov_mul (ew_var rfl) (ew_var rfl))), h⟩)) (RaiseW.tt0 hx) h
    · refine aw_next ?_
      refine aw_seq ?_
      refine aw_asg (Γ' := fun base => [.pool, .dat sight, .dat step, .dat base, .no]) (fun _ => rfl) (ew_ix (Nw.s (nw_lst (aw_cons ew_int (aw_cons ew_int (aw_cons (ew_op ov_pow ew_int ew_int) aw_nil))))) (ew_callP hF rfl (aw_cons ew_int aw_nil))) (RaiseW.tt0 hx) h (fun base h => ?_)
      exact aw_retN hr (nw_lcM (iw_seq (Ew.s (ew_var rfl))) (fun x Y h => ⟨_, _, tg_name (by decide), (ew_op ov_add (ew_var rfl) (ew_op ov_mul (ew_var rfl) (ew_var rfl))), h⟩)) (RaiseW.tt0 hx) h
abbrev N__law_blocks : List Str := ["state", "order", "size", "shift", "sight", "k"]
def t__law_blocks (K : PySem.W.Frag) (w : World) (sp__law_draw : Sp) (E : XK) : TS :=
  (tSeq (tAsg (tOp (rAddA K) (tC (.int 2)) (tCall sp__law_draw [] E (tCons (tVar 0) (tCons (tC (.int 2)) tNil)))) (gName 2))
    (tSeq (tAsg (tCall sp__law_draw [] E (tCons (tVar 0) (tCons (tVar 2) tNil))) (gName 3))
    (tSeq (tAsg (tLc (iSeq K (tVar 1)) (gName 5) tYes (tC (.int 0)) [5]) (gName 4))
    (tSeq (tFor (iRng1 (tCons (tCB (rLenA K) (tCons (tVar 1) tNil)) tNil)) (gName 5) (tAsg (tOp rDivI (tCB rIntA (tCons (tOp (rAddA K) (tVar 5) (tVar 3)) tNil)) (tVar 2)) (gSub (tVar 4) (tOp (rIx K) (tVar 1) (tVar 5)) rSetL)))
    (tRet (tVar 4))))))
@[irreducible] def W__law_blocks (order : PyData) (rt : List PyData → Prop) (er : XP) : Prop :=
  W__law_draw (.int 2) (fun t1 => addW (.int 2) t1 fun size => W__law_draw size (fun shift => seqW order fun l1 => lcMW l1 (fun k1 Y => Y (.int 0)) fun sight => seqW order fun l3 => lenW l3 fun t4 => rngW t4 fun it2 => forW (σ := List PyData) (fun k2 s nx bk => addW k2 shift fun t5 => cintW t5 fun t6 => divW t6 size fun t7 => seqW order fun l4 => ixW l4 k2 fun t8 => setW s t8 t7 fun sight2 => nx sight2) (fun s => rt s) it2 sight) er) er
theorem P__law_blocks (vs : List V) (H : Hp) (Q : VK) (E : XK) (h : spPN A St (vl1 W__law_blocks) vs H Q E) : t__law_blocks K w (spP A St (vl1 W__law_draw)) E { nx := fun _ H' => Q .non H', rt := Q } (L2.start N__law_blocks vs) H :=
  spPN_body (N := N__law_blocks) (t := fun E => t__law_blocks K w (spP A St (vl1 W__law_draw)) E) h fun C hF ds rt er B F0 D hW hr hx => by
    obtain ⟨order, rfl, h⟩ := vl1_inv hW
    unfold W__law_blocks at h
    show At C B F0 [.pool, .dat order, .no, .no, .no, .no] (t__law_blocks K w (spP A St (vl1 W__law_draw)) E D)
    refine aw_seq ?_
    refine aw_asg (Γ' := fun size => [.pool, .dat order, .dat size, .no, .no, .no]) (fun _ => rfl) (ew_op ov_add ew_int (ew_callP hF rfl (aw_cons ew_int aw_nil))) (RaiseW.tt0 hx) h (fun size h => ?_)
    refine aw_seq ?_
    refine aw_asg (Γ' := fun shift => [.pool, .dat order, .dat size, .dat shift, .no, .no]) (fun _ => rfl) (ew_callP hF rfl (aw_cons (ew_var rfl) aw_nil)) (RaiseW.tt0 hx) h (fun shift h => ?_)
    refine aw_seq ?_
    refine aw_asgN (Γ' := fun sight => [.pool, .dat order, .dat size, .dat shift, .own sight, .no]) (fun _ => rfl) (nw_lcM (iw_seq (Ew.s (ew_var rfl))) (fun x Y h => ⟨_, _, tg_name (by decide), ew_int, h⟩)) (RaiseW.tt0 hx) h (fun sight h => ?_)
    refine aw_seq ?_
    refine aw_for (σT := List PyData) (vs := [5]) (fun s => [.pool, .dat order, .dat size, .dat shift, .own s, .no]) (.keep (.keep (.keep (.keep (.keep (.keep .nil)))))) (fw_rng1 (ew_len (Ew.s (ew_var rfl)))) (fun F0 D => RetN C B F0 D rt) (ron_chain hr) hx h (fun F0 k2 s nx bk D hr hx hn hc hb h => ?_) (fun s h => ?_)
    · refine ⟨[.pool, .dat order, .dat size, .dat shift, .own s, .dat k2], tg_name (by decide), ?_⟩
      refine aw_set (Γ' := fun sight2 => [.pool, .dat order, .dat size, .dat shift, .own sight2, .dat k2]) rfl (fun _ => rfl) (ew_op ov_div (ew_cint (ew_op ov_add (ew_var rfl) (ew_var rfl))) (ew_var rfl)) (ew_ix (Ew.s (ew_var rfl)) (ew_var rfl)) (RaiseW.tt0 hx) h (fun sight2 h => ?_)
      exact at_wk (.keep (.keep (.keep (.keep (.keep (.drop .nil)))))) (hn _ h)
    · exact aw_retO hr rfl h
abbrev N__law_sights : List Str := ["state", "worlds", "people", "way", "order", "island", "sights", "k", "many", "sight", "w"]
def t__law_sights (K : PySem.W.Frag) (w : World) (sp__law_blocks : Sp) (sp__law_draw : Sp) (sp__law_named : Sp) (sp__law_order : Sp) (E : XK) : TS :=
  (tSeq (tAsg (tCall sp__law_draw [] E (tCons (tVar 0) (tCons (tC (.int 3)) tNil))) (gName 3))
    (tSeq (tAsg (tCall sp__law_order [] E (tCons (tVar 0) (tCons (tVar 1) tNil))) (gName 4))
    (tSeq (tAsg (tLc (iRng1 (tCons (tVar 1) tNil)) (gName 7) tYes (tCall sp__law_draw [] E0 (tCons (tVar 0) (tCons (tC (.int 3)) tNil))) [7]) (gName 5))
    (tSeq (tAsg (tLst tNil) (gName 6))
    (tSeq (tFor (iRng1 (tCons (tVar 2) tNil)) (gName 7) (tSeq (tAsg (tOp (rAddA K) (tC (.int 1)) (tCall sp__law_draw [] E (tCons (tVar 0) (tCons (tOp (rIx K) (tLst (tCons (tOp (rAddA K) (tVar 1) (tC (.int 1))) (tCons (tC (.int 1)) (tCons (tC (.int 3)) tNil)))) (tVar 3)) tNil)))) (gName 8))
    (tSeq (tAsg (tLc (iRng1 (tCons (tVar 1) tNil)) (gName 10) tYes (tCall sp__law_draw [] E0 (tCons (tVar 0) (tCons (tVar 8) tNil))) [10]) (gName 9))
    (tSeq (tIfS (tTest (tOp (rEqA K) (tVar 3) (tC (.int 1)))) (tAsg (tCall sp__law_blocks [] E (tCons (tVar 0) (tCons (tVar 4) tNil))) (gName 9)) tNext)
    (tSeq (tIfS (tTest (tOp (rEqA K) (tVar 3) (tC (.int 2)))) (tAsg (tLc (iRng1 (tCons (tVar 1) tNil)) (gName 10) tYes (tOp (rAddA K) (tOp (rMulA K) (tC (.int 10)) (tOp (rIx K) (tVar 5) (tVar 10))) (tOp (rIx K) (tVar 9) (tVar 10))) [10]) (gName 9)) tNext)
    (tDrop (tBM K "list" rAppend (tVar 6) (tCons (tCall sp__law_named [] E (tCons (tVar 0) (tCons (tVar 9) tNil))) tNil))))))))
    (tRet (tVar 6)))))))
@[irreducible] def W__law_sights (worlds : PyData) (people : PyData) (rt : List PyData → Prop) (er : XP) : Prop :=
  W__law_draw (.int 3) (fun way => W__law_order worlds (fun l1 => fzW l1 fun order => rngW worlds fun it1 => lcMW it1 (fun k1 Y => W__law_draw (.int 3) (fun t3 => Y t3) noX) fun l2 => fzW l2 fun island => dispL [] fun sights => rngW people fun it2 => forW (σ := List PyData) (fun k2 s nx bk => addW worlds (.int 1) fun t6 => dispL [t6, (.int 1), (.int 3)] fun l4 => ixW l4 way fun t7 => W__law_draw t7 (fun t5 => addW (.int 1) t5 fun many => rngW worlds fun it3 => lcMW it3 (fun w_ Y2 => W__law_draw many (fun t9 => Y2 t9) noX) fun l5 => fzW l5 fun sight => joinW (fun k3 => eqW way (.int 1) fun t11 => boolW t11 fun b1 => iteW b1 (W__law_blocks order (fun l6 => fzW l6 fun sight3 => k3 sight3) er) (k3 sight)) fun sight2 => joinW (fun k4 => eqW way (.int 2) fun t13 => boolW t13 fun b2 => iteW b2 (rngW worlds fun it4 => lcMW it4 (fun w_2 Y3 => seqW island fun l7 => ixW l7 w_2 fun t14 => mulW (.int 10) t14 fun t15 => seqW sight2 fun l8 => ixW l8 w_2 fun t16 => addW t15 t16 fun t17 => Y3 t17) fun l9 => fzW l9 fun sight5 => k4 sight5) (k4 sight2)) fun sight4 => W__law_named sight4 (fun l10 => fzW l10 fun t19 => appW s t19 fun sights2 => nx sights2) er) er) (fun s => rt s) it2 sights) er) er
theorem P__law_sights (vs : List V) (H : Hp) (Q : VK) (E : XK) (h : spPN A St (vl2 W__law_sights) vs H Q E) : t__law_sights K w (spPN A St (vl1 W__law_blocks)) (spP A St (vl1 W__law_draw)) (spPN A St (vl1 W__law_named)) (spPN A St (vl1 W__law_order)) E { nx := fun _ H' => Q .non H', rt := Q } (L2.start N__law_sights vs) H :=
  spPN_body (N := N__law_sights) (t := fun E => t__law_sights K w (spPN A St (vl1 W__law_blocks)) (spP A St (vl1 W__law_draw)) (spPN A St (vl1 W__law_named)) (spPN A St (vl1 W__law_order)) E) h fun C hF ds rt er B F0 D hW hr hx => by
    obtain ⟨worlds, people, rfl, h⟩ := vl2_inv hW
    unfold W__law_sights at h
    show At C B F0 [.pool, .dat worlds, .dat people, .no, .no, .no, .no, .no, .no, .no, .no] (t__law_sights K w (spPN A St (vl1 W__law_blocks)) (spP A St (vl1 W__law_draw)) (spPN A St (vl1 W__law_named)) (spPN A St (vl1 W__law_order)) E D)
    refine aw_seq ?_
    refine aw_asg (Γ' := fun way => [.pool, .dat worlds, .dat people, .dat way, .no, .no, .no, .no, .no, .no, .no]) (fun _ => rfl) (ew_callP hF rfl (aw_cons ew_int aw_nil)) (RaiseW.tt0 hx) h (fun way h => ?_)
    refine aw_seq ?_
    refine aw_asg (Γ' := fun order => [.pool, .dat worlds, .dat people, .dat way, .dat order, .no, .no, .no, .no, .no, .no]) (fun _ => rfl) (Nw.fz (nw_callP hF rfl (aw_cons (ew_var rfl) aw_nil))) (RaiseW.tt0 hx) h (fun order h => ?_)
    refine aw_seq ?_
    refine aw_asg (Γ' := fun island => [.pool, .dat worlds, .dat people, .dat way, .dat order, .dat island, .no, .no, .no, .no, .no]) (fun _ => rfl) (Nw.fz (nw_lcM (Fw.it (fw_rng1 (ew_var rfl))) (fun x Y h => ⟨_, _, tg_name (by decide), (ew_callP hF rfl (aw_cons ew_int aw_nil)), h⟩))) (RaiseW.tt0 hx) h (fun island h => ?_)
    refine aw_seq ?_
    refine aw_asgN (Γ' := fun sights => [.pool, .dat worlds, .dat people, .dat way, .dat order, .dat island, .own sights, .no, .no, .no, .no]) (fun _ => rfl) (nw_lst aw_nil) (RaiseW.tt0 hx) h (fun sights h => ?_)
    refine aw_seq ?_
    refine aw_for (σT := List PyData) (vs := [7]) (fun s => [.pool, .dat worlds, .dat people, .dat way, .dat order, .dat island, .own s, .no, .no, .no, .no]) (.keep (.keep (.keep (.keep (.keep (.keep (.keep (.keep (.keep (.keep (.keep .nil))))))))))) (fw_rng1 (ew_var rfl)) (fun F0 D => RetN C B F0 D rt) (ron_chain hr) hx h (fun F0 k2 s nx bk D hr hx hn hc hb h => ?_) (fun s h => ?_)
    · refine ⟨[.pool, .dat worlds, .dat people, .dat way, .dat order, .dat island, .own s, .dat k2, .no, .no, .no], tg_name (by decide), ?_⟩
      refine aw_seq ?_
      refine aw_asg (Γ' := fun many => [.pool, .dat worlds, .dat people, .dat way, .dat order, .dat island, .own s, .dat k2, .dat many, .no, .no]) (fun _ => rfl) (ew_op ov_add ew_int (ew_callP hF rfl (aw_cons (ew_ix (Nw.s (nw_lst (aw_cons (ew_op ov_add (ew_var rfl) ew_int) (aw_cons ew_int (aw_cons ew_int aw_nil))))) (ew_var rfl)) aw_nil))) (RaiseW.tt0 hx) h (fun many h => ?_)
      refine aw_seq ?_
      refine aw_asg (Γ' := fun sight => [.pool, .dat worlds, .dat people, .dat way, .dat order, .dat island, .own s, .dat k2, .dat many, .dat sight, .no]) (fun _ => rfl) (Nw.fz (nw_lcM (Fw.it (fw_rng1 (ew_var rfl))) (fun x Y h => ⟨_, _, tg_name (by decide), (ew_callP hF rfl (aw_cons (ew_var rfl) aw_nil)), h⟩))) (RaiseW.tt0 hx) h (fun sight h => ?_)
      refine aw_join (J := fun (k : PyData → Prop) Z => ∀ sight2, k sight2 → At C B F0 [.pool, .dat worlds, .dat people, .dat way, .dat order, .dat island, .own s, .dat k2, .dat many, .dat sight2, .no] Z) h (fun sight2 h => ?_) (fun k' hk h => ?_)
      · refine aw_join (J := fun (k : PyData → Prop) Z => ∀ sight4, k sight4 → At C B F0 [.pool, .dat worlds, .dat people, .dat way, .dat order, .dat island, .own s, .dat k2, .dat many, .dat sight4, .no] Z) h (fun sight4 h => ?_) (fun k' hk h => ?_)
        · refine aw_append (Γ' := fun sights2 => [.pool, .dat worlds, .dat people, .dat way, .dat order, .dat island, .own sights2, .dat k2, .dat many, .dat sight4, .no]) rfl (fun _ => rfl) (Nw.fz (nw_callP hF rfl (aw_cons (ew_var rfl) aw_nil))) (RaiseW.tt0 hx) h (fun sights2 h => ?_)
          exact at_wk (.keep (.keep (.keep (.keep (.keep (.keep (.keep (.drop (.drop (.drop (.keep .nil))))))))))) (hn _ h)
        · refine aw_if (tw_test (ew_op ov_eq (ew_var rfl) ew_int)) (RaiseW.tt0 hx) h (fun h => ?_) (fun h => ?_)
          · refine aw_asg (Γ' := fun sight5 => [.pool, .dat worlds, .dat people, .dat way, .dat order, .dat island, .own s, .dat k2, .dat many, .dat sight5, .no]) (fun _ => rfl) (Nw.fz (nw_lcM (Fw.it (fw_rng1 (ew_var rfl))) (fun x Y h => ⟨_, _, tg_name (by decide), (ew_op ov_add (ew_op ov_mul ew_int (ew_ix (Ew.s (ew_var rfl)) (ew_var rfl))) (ew_ix (Ew.s (ew_var rfl)) (ew_var rfl))), h⟩))) (RaiseW.tt0 hx) h (fun sight5 h => ?_)
            exact at_wk (.keep (.keep (.keep (.keep (.keep (.keep (.keep (.keep (.keep (.keep (.keep .nil))))))))))) (hk _ h)
          · refine aw_next ?_
            exact at_wk (.keep (.keep (.keep (.keep (.keep (.keep (.keep (.keep (.keep (.keep (.keep .nil))))))))))) (hk _ h)
      · refine aw_if (tw_test (ew_op ov_eq (ew_var rfl) ew_int)) (RaiseW.tt0 hx) h (fun h => ?_) (fun h => ?_)
        · refine aw_asg (Γ' := fun sight3 => [.pool, .dat worlds, .dat people, .dat way, .dat order, .dat island, .own s, .dat k2, .dat many, .dat sight3, .no]) (fun _ => rfl) (Nw.fz (nw_callP hF rfl (aw_cons (ew_var rfl) aw_nil))) (RaiseW.tt0 hx) h (fun sight3 h => ?_)
          exact at_wk (.keep (.keep (.keep (.keep (.keep (.keep (.keep (.keep (.keep (.keep (.keep .nil))))))))))) (hk _ h)
        · refine aw_next ?_
          exact at_wk (.keep (.keep (.keep (.keep (.keep (.keep (.keep (.keep (.keep (.keep (.keep .nil))))))))))) (hk _ h)
    · exact aw_retO hr rfl h
abbrev N__law_handed : List Str := ["state", "rows", "made", "row"]
def t__law_handed (K : PySem.W.Frag) (w : World) (sp__law_draw : Sp) (E : XK) : TS :=
  (tSeq (tAsg (tLst tNil) (gName 2))
    (tSeq (tFor (iSeq K (tVar 1)) (gName 3) (tIfS (tTest (tOp (rEqA K) (tCall sp__law_draw [] E (tCons (tVar 0) (tCons (tC (.int 2)) tNil))) (tC (.int 1)))) (tDrop (tBM K "list" rAppend (tVar 2) (tCons (tThen (tVar 3) (kTup K)) tNil))) (tDrop (tBM K "list" rAppend (tVar 2) (tCons (tCB (rListA K) (tCons (tVar 3) tNil)) tNil)))))
    (tSeq (tIfS (tTest (tOp (rEqA K) (tCall sp__law_draw [] E (tCons (tVar 0) (tCons (tC (.int 2)) tNil))) (tC (.int 1)))) (tRet (tThen (tVar 2) (kTup K))) tNext)
    (tRet (tVar 2)))))
@[irreducible] def W__law_handed (rows : PyData) (rt : PyData → Prop) (er : XP) : Prop :=
  dispL [] fun made => seqW rows fun l2 => forW (σ := List PyData) (fun row s nx bk => W__law_draw (.int 2) (fun t1 => eqW t1 (.int 1) fun t2 => boolW t2 fun b1 => iteW b1 (seqW row fun l3 => tupW l3 fun t3 => appW s t3 fun made2 => nx made2) (seqW row fun l4 => fzW l4 fun t4 => appW s t4 fun made3 => nx made3)) er) (fun s => W__law_draw (.int 2) (fun t5 => eqW t5 (.int 1) fun t6 => boolW t6 fun b2 => iteW b2 (tupW s fun t7 => rt t7) (fzW s rt)) er) l2 made
theorem P__law_handed (vs : List V) (H : Hp) (Q : VK) (E : XK) (h : spP A St (vl1 W__law_handed) vs H Q E) : t__law_handed K w (spP A St (vl1 W__law_draw)) E { nx := fun _ H' => Q .non H', rt := Q } (L2.start N__law_handed vs) H :=
  spP_body (N := N__law_handed) (t := fun E => t__law_handed K w (spP A St (vl1 W__law_draw)) E) h fun C hF ds rt er B F0 D hW hr hx hn => by
    obtain ⟨rows, rfl, h⟩ := vl1_inv hW
    unfold W__law_handed at h
    show At C B F0 [.pool, .dat rows, .no, .no] (t__law_handed K w (spP A St (vl1 W__law_draw)) E D)
    refine aw_seq ?_
    refine aw_asgN (Γ' := fun made => [.pool, .dat rows, .own made, .no]) (fun _ => rfl) (nw_lst aw_nil) (RaiseW.tt0 hx) h (fun made h => ?_)
    refine aw_seq ?_
    refine aw_for (σT := List PyData) (vs := [3]) (fun s => [.pool, .dat rows, .own s, .no]) (.keep (.keep (.keep (.keep .nil)))) (fw_seq (ew_var rfl)) (fun F0 D => RetOk C B F0 D rt) (rok_chain hr) hx h (fun F0 row s nx bk D hr hx hn hc hb h => ?_) (fun s h => ?_)
    · refine ⟨[.pool, .dat rows, .own s, .dat row], tg_name (by decide), ?_⟩
      refine aw_if (tw_test (ew_op ov_eq (ew_callP hF rfl (aw_cons ew_int aw_nil)) ew_int)) (RaiseW.tt0 hx) h (fun h => ?_) (fun h => ?_)
      · refine aw_append (Γ' := fun made2 => [.pool, .dat rows, .own made2, .dat row]) rfl (fun _ => rfl) (ew_tupleD (ew_var rfl)) (RaiseW.tt0 hx) h (fun made2 h => ?_)
        exact at_wk (.keep (.keep (.keep (.drop .nil)))) (hn _ h)
      · refine aw_append (Γ' := fun made3 => [.pool, .dat rows, .own made3, .dat row]) rfl (fun _ => rfl) (Nw.fz (nw_list (Ew.s (ew_var rfl)))) (RaiseW.tt0 hx) h (fun made3 h => ?_)
        exact at_wk (.keep (.keep (.keep (.drop .nil)))) (hn _ h)
    · refine aw_seq ?_
      refine aw_if (tw_test (ew_op ov_eq (ew_callP hF rfl (aw_cons ew_int aw_nil)) ew_int)) (RaiseW.tt0 hx) h (fun h => ?_) (fun h => ?_)
      · exact aw_ret hr (ew_tupleL (lw_own rfl)) (RaiseW.tt0 hx) h
      · refine aw_next ?_
        exact aw_retF hr rfl h
abbrev N__law_plain : List Str := ["rows", "row"]
def t__law_plain (K : PySem.W.Frag) (w : World) (E : XK) : TS :=
  (tRet (tLc (iSeq K (tVar 0)) (gName 1) tYes (tCB (rListA K) (tCons (tVar 1) tNil)) [1]))
@[irreducible] def W__law_plain (rows : PyData) (rt : List PyData → Prop) (er : XP) : Prop :=
  seqW rows fun l1 => lcMW l1 (fun row Y => seqW row fun l2 => fzW l2 fun t1 => Y t1) fun l3 => rt l3
theorem P__law_plain (vs : List V) (H : Hp) (Q : VK) (E : XK) (h : spFN A (vl1 W__law_plain) vs H Q E) : t__law_plain K w E { nx := fun _ H' => Q .non H', rt := Q } (L2.start N__law_plain vs) H :=
  spFN_body (N := N__law_plain) (t := fun E => t__law_plain K w E) h fun ds rt er B F0 D hW hr hx => by
    obtain ⟨rows, rfl, h⟩ := vl1_inv hW
    unfold W__law_plain at h
    show At pc0 B F0 [.dat rows, .no] (t__law_plain K w E D)
    exact aw_retN hr (nw_lcM (iw_seq (Ew.s (ew_var rfl))) (fun x Y h => ⟨_, _, tg_name (by decide), (Nw.fz (nw_list (Ew.s (ew_var rfl)))), h⟩)) (RaiseW.tt0 hx) h
abbrev N__law_bad_event : List Str := ["state", "worlds", "way", "at"]
def t__law_bad_event (K : PySem.W.Frag) (w : World) (sp__law_draw : Sp) (E : XK) : TS :=
  (tSeq (tAsg (tCall sp__law_draw [] E (tCons (tVar 0) (tCons (tC (.int 7)) tNil))) (gName 2))
    (tSeq (tAsg (tCall sp__law_draw [] E (tCons (tVar 0) (tCons (tVar 1) tNil))) (gName 3))
    (tRet (tOp (rIx K) (tLst (tCons (tLst (tCons (tVar 3) tNil)) (tCons (tTup (tCons (tVar 3) (tCons (tVar 3) tNil))) (tCons (tTup (tCons (tVar 3) (tCons (tVar 1) tNil))) (tCons (tTup (tCons (tUn rNegI (tC (.int 1))) (tCons (tVar 3) tNil))) (tCons (tTup (tCons (tOp rSubI (tVar 1) (tC (.int 1))) (tCons (tC (.int 0)) tNil))) (tCons (tTup (tCons (tC (.bl false)) tNil)) (tCons (tC .non) tNil)))))))) (tVar 2)))))
@[irreducible] def W__law_bad_event (worlds : PyData) (rt : PyData → Prop) (er : XP) : Prop :=
  W__law_draw (.int 7) (fun way => W__law_draw worlds (fun at_ => dispL [at_] fun l1 => fzW l1 fun t3 => dispT [at_, at_] fun t4 => dispT [at_, worlds] fun t5 => negW (.int 1) fun t6 => dispT [t6, at_] fun t7 => subW worlds (.int 1) fun t8 => dispT [t8, (.int 0)] fun t9 => dispT [(.bool false)] fun t10 => dispL [t3, t4, t5, t7, t9, t10, .none] fun l2 => ixW l2 way fun t11 => rt t11) er) er
theorem P__law_bad_event (vs : List V) (H : Hp) (Q : VK) (E : XK) (h : spP A St (vl1 W__law_bad_event) vs H Q E) : t__law_bad_event K w (spP A St (vl1 W__law_draw)) E { nx := fun _ H' => Q .non H', rt := Q } (L2.start N__law_bad_event vs) H :=
  spP_body (N := N__law_bad_event) (t := fun E => t__law_bad_event K w (spP A St (vl1 W__law_draw)) E) h fun C hF ds rt er B F0 D hW hr hx hn => by
    obtain ⟨worlds, rfl, h⟩ := vl1_inv hW
    unfold W__law_bad_event at h
    show At C B F0 [.pool, .dat worlds, .no, .no] (t__law_bad_event K w (spP A St (vl1 W__law_draw)) E D)
    refine aw_seq ?_
    refine aw_asg (Γ' := fun way => [.pool, .dat worlds, .dat way, .no]) (fun _ => rfl) (ew_callP hF rfl (aw_cons ew_int aw_nil)) (RaiseW.tt0 hx) h (fun way h => ?_)
    refine aw_seq ?_
    refine aw_asg (Γ' := fun at_ => [.pool, .dat worlds, .dat way, .dat at_]) (fun _ => rfl) (ew_callP hF rfl (aw_cons (ew_var rfl) aw_nil)) (RaiseW.tt0 hx) h (fun at_ h => ?_)
    exact aw_ret hr (ew_ix (Nw.s (nw_lst (aw_cons (Nw.fz (nw_lst (aw_cons (ew_var rfl) aw_nil))) (aw_cons (ew_tup (aw_cons (ew_var rfl) (aw_cons (ew_var rfl) aw_nil))) (aw_cons (ew_tup (aw_cons (ew_var rfl) (aw_cons (ew_var rfl) aw_nil))) (aw_cons (ew_tup (aw_cons (ew_neg ew_int) (aw_cons (ew_var rfl) aw_nil))) (aw_cons (ew_tup (aw_cons (ew_op ov_sub (ew_var rfl) ew_int) (aw_cons ew_int aw_nil))) (aw_cons (ew_tup (aw_cons ew_bl aw_nil)) (aw_cons ew_non aw_nil))))))))) (ew_var rfl)) (RaiseW.tt0 hx) h
abbrev N__law_event : List Str := ["state", "worlds", "way", "w"]
def t__law_event (K : PySem.W.Frag) (w : World) (sp__law_draw : Sp) (E : XK) : TS :=
  (tSeq (tAsg (tCall sp__law_draw [] E (tCons (tVar 0) (tCons (tC (.int 6)) tNil))) (gName 2))
    (tSeq (tIfS (tTest (tOp (rEqA K) (tVar 2) (tC (.int 0)))) (tRet (tTup tNil)) tNext)
    (tSeq (tIfS (tTest (tOp (rEqA K) (tVar 2) (tC (.int 1)))) (tRet (tTupRg (tRg1 (tVar 1)))) tNext)
    (tRet (tThen (tLc (iRng1 (tCons (tVar 1) tNil)) (gName 3) (tTest (tOp (rEqA K) (tCall sp__law_draw [] E0 (tCons (tVar 0) (tCons (tC (.int 2)) tNil))) (tC (.int 1)))) (tVar 3) [3]) (kTup K))))))
@[irreducible] def W__law_event (worlds : PyData) (rt : PyData → Prop) (er : XP) : Prop :=
  W__law_draw (.int 6) (fun way => eqW way (.int 0) fun t2 => boolW t2 fun b1 => iteW b1 (dispT [] fun t3 => rt t3) (eqW way (.int 1) fun t4 => boolW t4 fun b2 => iteW b2 (rgLW worlds fun l1 => tupW l1 fun t5 => rt t5) (rngW worlds fun it1 => lcW it1 (fun w_ Y N => W__law_draw (.int 2) (fun t6 => eqW t6 (.int 1) fun t7 => boolW t7 fun b3 => iteW b3 (Y w_) N) noX) fun l2 => tupW l2 fun t8 => rt t8))) er
theorem P__law_event (vs : List V) (H : Hp) (Q : VK) (E : XK) (h : spP A St (vl1 W__law_event) vs H Q E) : t__law_event K w (spP A St (vl1 W__law_draw)) E { nx := fun _ H' => Q .non H', rt := Q } (L2.start N__law_event vs) H :=
  spP_body (N := N__law_event) (t := fun E => t__law_event K w (spP A St (vl1 W__law_draw)) E) h fun C hF ds rt er B F0 D hW hr hx hn => by
    obtain ⟨worlds, rfl, h⟩ := vl1_inv hW
    unfold W__law_event at h
    show At C B F0 [.pool, .dat worlds, .no, .no] (t__law_event K w (spP A St (vl1 W__law_draw)) E D)
    refine aw_seq ?_
    refine aw_asg (Γ' := fun way => [.pool, .dat worlds, .dat way, .no]) (fun _ => rfl) (ew_callP hF rfl (aw_cons ew_int aw_nil)) (RaiseW.tt0 hx) h (fun way h => ?_)
    refine aw_seq ?_
    refine aw_if (tw_test (ew_op ov_eq (ew_var rfl) ew_int)) (RaiseW.tt0 hx) h (fun h => ?_) (fun h => ?_)
    · exact aw_ret hr (ew_tup aw_nil) (RaiseW.tt0 hx) h
    · refine aw_next ?_
      refine aw_seq ?_
      refine aw_if (tw_test (ew_op ov_eq (ew_var rfl) ew_int)) (RaiseW.tt0 hx) h (fun h => ?_) (fun h => ?_)
      · exact aw_ret hr (ew_tupRg (ew_var rfl)) (RaiseW.tt0 hx) h
      · refine aw_next ?_
        exact aw_ret hr (ew_tupleL (Nw.ls (nw_lc (Fw.it (fw_rng1 (ew_var rfl))) (fun x Y N h => ⟨_, _, _, tg_name (by decide), (tw_test (ew_op ov_eq (ew_callP hF rfl (aw_cons ew_int aw_nil)) ew_int)), (ew_var rfl), h⟩)))) (RaiseW.tt0 hx) h
abbrev N__law_part : List Str := ["sight", "world", "u"]
def t__law_part (K : PySem.W.Frag) (w : World) (E : XK) : TS :=
  (tRet (tLc (iRng1 (tCons (tCB (rLenA K) (tCons (tVar 0) tNil)) tNil)) (gName 2) (tTest (tOp (rEqA K) (tOp (rIx K) (tVar 0) (tVar 2)) (tOp (rIx K) (tVar 0) (tVar 1)))) (tVar 2) [2]))
@[irreducible] def W__law_part (sight : PyData) (world : PyData) (rt : List PyData → Prop) (er : XP) : Prop :=
  seqW sight fun l1 => lenW l1 fun t1 => rngW t1 fun it1 => lcW it1 (fun u Y N => seqW sight fun l2 => ixW l2 u fun t2 => seqW sight fun l3 => ixW l3 world fun t3 => eqW t2 t3 fun t4 => boolW t4 fun b1 => iteW b1 (Y u) N) fun l4 => rt l4
theorem P__law_part (vs : List V) (H : Hp) (Q : VK) (E : XK) (h : spFN A (vl2 W__law_part) vs H Q E) : t__law_part K w E { nx := fun _ H' => Q .non H', rt := Q } (L2.start N__law_part vs) H :=
  spFN_body (N := N__law_part) (t := fun E => t__law_part K w E) h fun ds rt er B F0 D hW hr hx => by
    obtain ⟨sight, world, rfl, h⟩ := vl2_inv hW
    unfold W__law_part at h
    show At pc0 B F0 [.dat sight, .dat world, .no] (t__law_part K w E D)
    exact aw_retN hr (nw_lc (Fw.it (fw_rng1 (ew_len (Ew.s (ew_var rfl))))) (fun x Y N h => ⟨_, _, _, tg_name (by decide), (tw_test (ew_op ov_eq (ew_ix (Ew.s (ew_var rfl)) (ew_var rfl)) (ew_ix (Ew.s (ew_var rfl)) (ew_var rfl)))), (ew_var rfl), h⟩)) (RaiseW.tt0 hx) h
abbrev N__law_bad_sights : List Str := ["state", "sights", "way", "bad", "worlds", "spoilt", "sight", "k"]
def t__law_bad_sights (K : PySem.W.Frag) (w : World) (sp__law_draw : Sp) (E : XK) : TS :=
  (tSeq (tAsg (tCall sp__law_draw [] E (tCons (tVar 0) (tCons (tC (.int 11)) tNil))) (gName 2))
    (tSeq (tAsg (tLc (iSeq K (tVar 1)) (gName 6) tYes (tCB (rListA K) (tCons (tVar 6) tNil)) [6]) (gName 3))
    (tSeq (tAsg (tCB (rLenA K) (tCons (tOp (rIx K) (tVar 1) (tC (.int 0))) tNil)) (gName 4))
    (tSeq (tIfS (tTest (tOp (rEqA K) (tVar 2) (tC (.int 0)))) (tRet (tTup tNil)) tNext)
    (tSeq (tIfS (tTest (tOp (rEqA K) (tVar 2) (tC (.int 1)))) (tRet (tLc (iRng1 (tCons (tC (.int 5)) tNil)) (gName 7) tYes (tCB (rListA K) (tCons (tOp (rIx K) (tVar 1) (tC (.int 0))) tNil)) [7])) tNext)
    (tSeq (tIfS (tTest (tOp (rEqA K) (tVar 2) (tC (.int 2)))) (tRet (tOp (rAddA K) (tSl (rSlB K) (tVar 3) tNoPart (tPart (tC (.int 3)))) (tLst (tCons (tOp (rAddA K) (tCB (rListA K) (tCons (tOp (rIx K) (tVar 1) (tC (.int 0))) tNil)) (tLst (tCons (tC (.int 0)) tNil))) tNil)))) tNext)
    (tSeq (tIfS (tTest (tOp (rEqA K) (tVar 2) (tC (.int 3)))) (tRet (tLc (iSeq K (tVar 3)) (gName 6) tYes (tOp (rAddA K) (tVar 6) (tLc (iRng1 (tCons (tOp rSubI (tC (.int 11)) (tVar 4)) tNil)) (gName 7) tYes (tC (.int 0)) [7])) [6])) tNext)
    (tSeq (tIfS (tTest (tOp (rEqA K) (tVar 2) (tC (.int 4)))) (tRet (tThen (tLc (iSeq K (tVar 3)) (gName 6) tYes (tTup tNil) [6]) (kTup K))) tNext)
    (tSeq (tIfS (tTest (tOp (rEqA K) (tVar 2) (tC (.int 5)))) (tRet (tC .non)) tNext)
    (tSeq (tIfS (tTest (tOp (rEqA K) (tVar 2) (tC (.int 6)))) (tRet (tThen (tOp (rAddA K) (tSl (rSlB K) (tVar 3) tNoPart (tPart (tC (.int 3)))) (tLst (tCons (tC .non) tNil))) (kTup K))) tNext)
    (tSeq (tAsg (tOp (rIx K) (tVar 3) (tCall sp__law_draw [] E (tCons (tVar 0) (tCons (tCB (rLenA K) (tCons (tVar 3) tNil)) tNil)))) (gName 5))
    (tSeq (tAsg (tOp (rIx K) (tLst (tCons (tUn rNegI (tC (.int 1))) (tCons (tC (.bl true)) (tCons (tC .non) (tCons (tC (.str (PySem.Str.ofString "0"))) tNil))))) (tOp rSubI (tVar 2) (tC (.int 7)))) (gSub (tVar 5) (tCall sp__law_draw [] E (tCons (tVar 0) (tCons (tVar 4) tNil))) rSetL))
    (tRet (tVar 3))))))))))))))
@[irreducible] def W__law_bad_sights (sights : PyData) (rt : PyData → Prop) (er : XP) : Prop :=
  W__law_draw (.int 11) (fun way => seqW sights fun l1 => lcMW l1 (fun sight Y => seqW sight fun l2 => fzW l2 fun t1 => Y t1) fun l3 => fzW l3 fun bad => seqW sights fun l1 => ixW l1 (.int 0) fun t2 => seqW t2 fun l2 => lenW l2 fun worlds => eqW way (.int 0) fun t4 => boolW t4 fun b1 => iteW b1 (dispT [] fun t5 => rt t5) (eqW way (.int 1) fun t6 => boolW t6 fun b2 => iteW b2 (rngW (.int 5) fun it1 => lcMW it1 (fun k1 Y => seqW sights fun l3 => ixW l3 (.int 0) fun t7 => seqW t7 fun l4 => fzW l4 fun t8 => Y t8) fun l5 => fzW l5 fun t9 => rt t9) (eqW way (.int 2) fun t10 => boolW t10 fun b3 => iteW b3 (intW (.int 3) fun i => slDW bad none (some i) fun t11 => lstW t11 fun l6 => seqW sights fun l7 => ixW l7 (.int 0) fun t12 => seqW t12 fun l8 => dispL [(.int 0)] fun l9 => catW l8 l9 fun l10 => fzW l10 fun t13 => dispL [t13] fun l11 => catW l6 l11 fun l12 => fzW l12 fun t14 => rt t14) (eqW way (.int 3) fun t15 => boolW t15 fun b4 => iteW b4 (seqW bad fun l13 => lcMW l13 (fun sight Y3 => lstW sight fun l14 => subW (.int 11) worlds fun t16 => rngW t16 fun it3 => lcMW it3 (fun k2 Y2 => Y2 (.int 0)) fun l15 => catW l14 l15 fun l16 => fzW l16 fun t17 => Y3 t17) fun l17 => fzW l17 fun t18 => rt t18) (eqW way (.int 4) fun t19 => boolW t19 fun b5 => iteW b5 (seqW bad fun l18 => lcMW l18 (fun sight2 Y4 => dispT [] fun t20 => Y4 t20) fun l19 => tupW l19 fun t21 => rt t21) (eqW way (.int 5) fun t22 => boolW t22 fun b6 => iteW b6 (rt .none) (eqW way (.int 6) fun t23 => boolW t23 fun b7 => iteW b7 (intW (.int 3) fun i2 => slDW bad none (some i2) fun t24 => lstW t24 fun l20 => dispL [.none] fun l21 => catW l20 l21 fun l22 => tupW l22 fun t25 => rt t25) (seqW bad fun l23 => lenW l23 fun t27 => W__law_draw t27 (fun t26 => rowW bad t26 fun j row => negW (.int 1) fun t28 => dispL [t28, (.bool true), .none, (.str (PySem.Str.ofString "0"))] fun l24 => subW way (.int 7) fun t29 => ixW l24 t29 fun t30 => W__law_draw worlds (fun t31 => setW row t31 t30 fun row2 => rt (.list ((lsOf bad).set j (.list row2)))) er) er)))))))) er
theorem last_bad {C : Pc} {B F0 B1 F1 : Hp} {D : Ends} {E : XK} {p : Addr} {ts : Rws} {sights way worlds : PyData} {rt : PyData → Prop} {er : XP} {r0 : VK} {b0 c0 : L2.St → Hp → Prop} (hF : St C) (g01 : Grow C.S F0 B F1 B1) (R : Raw C B F1 B1 p ts) (hr : RetOk C B F0 D rt) (hx : RaiseW A C B F0 E er)
    (h : seqW (.list (dataOf ts)) fun l23 => lenW l23 fun t27 => W__law_draw t27 (fun t26 => rowW (.list (dataOf ts)) t26 fun j row => negW (.int 1) fun t28 => dispL [t28, (.bool true), .none, (.str (PySem.Str.ofString "0"))] fun l24 => subW way (.int 7) fun t29 => ixW l24 t29 fun t30 => W__law_draw worlds (fun t31 => setW row t31 t30 fun row2 => rt (.list ((dataOf ts).set j (.list row2)))) er) er) :
    At C B1 F1 [.pool, .dat sights, .dat way, .ref p, .dat worlds, .no, .no, .no] (tAsg (tOp (rIx K) (tVar 3) (tCall (spP A St (vl1 W__law_draw)) [] E (tCons (tVar 0) (tCons (tCB (rLenA K) (tCons (tVar 3) tNil)) tNil)))) (gName 5)
      (Ends.mk (tSeq (tAsg (tOp (rIx K) (tLst (tCons (tUn rNegI (tC (.int 1))) (tCons (tC (.bl true)) (tCons (tC .non) (tCons (tC (.str (PySem.Str.ofString "0"))) tNil))))) (tOp rSubI (tVar 2) (tC (.int 7)))) (gSub (tVar 5) (tCall (spP A St (vl1 W__law_draw)) [] E (tCons (tVar 0) (tCons (tVar 4) tNil))) rSetL)) (tRet (tVar 3)) D) r0 b0 c0)) := fun F H σ wd gr gm => by
  have R2 := R.grow gr
  have e3 : σ[3]? = some (some (.ref p)) := gm.ok 3 _ rfl
  have e0 : σ[0]? = some (some (.ref C.p)) := gm.ok 0 _ rfl
  have hlen : (refsOf ts).length = (dataOf ts).length := by unfold refsOf dataOf; rw [List.length_map, List.length_map]
  have xo : XOk A C F H E er := fun n f cv dd F' H' g' w' hxx hc => hx F' H' cv dd n f w' (g01.trans (gr.trans g')) hxx hc
  refine ⟨_, e3, _, e0, _, e3, .inl ⟨p, refsOf ts, rfl, .inl (SqL.of R2.ph), ?_⟩⟩
  rw [hlen]
  refine ⟨C, F, [.int _], [.int _], _, er, hF, rfl, wd, RpAll.one (.int _), h, fun d v F2 H2 pd g2 w2 rv => ?_, xo⟩
  unfold rowW at pd
  split at pd
  · rename_i xs n e1
    cases e1
    obtain ⟨j, row, hj, hrow, h2⟩ := pd
    rw [rv.int_inv]
    have R3 := R2.grow g2
    obtain ⟨q, us, hts⟩ : ∃ q us, ts[j]? = some (q, us, row) := by
      unfold dataOf at hrow
      rw [List.getElem?_map] at hrow
      cases e : ts[j]? with
      | none => rw [e] at hrow; cases hrow
      | some t => rw [e] at hrow; obtain ⟨q, us, ds⟩ := t; cases hrow; exact ⟨q, us, rfl⟩
    have hat : atI (refsOf ts) n = some (.ref q) := by
      unfold atI
      rw [hlen, hj]
      show (refsOf ts)[j]? = _
      unfold refsOf
      rw [List.getElem?_map, hts]; rfl
    refine .inl ⟨p, refsOf ts, n, .ref q, rfl, rfl, SqL.of R3.ph, hat, ?_⟩
    have gm2 : Gm C B1 F2 H2 (σ.set 5 (some (.ref q))) [.pool, .dat sights, .dat way, .ref p, .dat worlds, .ref q, .no, .no] := (gm.grow g2).set (s := .ref q) rfl fun _ z => nomatch z
    have hV : Ew A C (fun _ => E) (tOp (rIx K) (tLst (tCons (tUn rNegI (tC (.int 1))) (tCons (tC (.bl true)) (tCons (tC .non) (tCons (tC (.str (PySem.Str.ofString "0"))) tNil))))) (tOp rSubI (tVar 2) (tC (.int 7)))) [.pool, .dat sights, .dat way, .ref p, .dat worlds, .ref q, .no, .no] _ := ew_ix (Nw.s (nw_lst (aw_cons (ew_neg ew_int) (aw_cons ew_bl (aw_cons ew_non (aw_cons ew_str aw_nil)))))) (ew_op ov_sub (ew_var rfl) ew_int)
    refine hV _ er h2 B1 F2 H2 _ w2 gm2 _ (fun v3 F3 H3 d3 g3 w3 pd3 r3 => ?_) (xo.go g2)
    have hI : Ew A C (fun _ => E) (tCall (spP A St (vl1 W__law_draw)) [] E (tCons (tVar 0) (tCons (tVar 4) tNil))) [.pool, .dat sights, .dat way, .ref p, .dat worlds, .ref q, .no, .no] _ := ew_callP hF rfl (aw_cons (ew_var rfl) aw_nil)
    have gm3 := gm2.grow g3
    refine ⟨.ref q, gm3.ok 5 _ rfl, hI _ er pd3 B1 F3 H3 _ w3 gm3 _ (fun u F4 H4 m g4 w4 pn ru => ?_) ((xo.go g2).go g3)⟩
    unfold setW at pn
    split at pn
    · rename_i m
      obtain ⟨k', hk, hrt⟩ := pn
      rw [Rp.int_inv ru]
      have R4 := (R3.grow g3).grow g4
      obtain ⟨m0, m1, m2, m3, m4, m5⟩ := R4.ok _ (List.mem_of_getElem? hts)
      have R5 := R4.set hts (m5.set k' (r3.mono g4.ff))
      refine ⟨q, us, m, k', rfl, rfl, m4, by rw [m5.length]; exact hk, ?_⟩
      have gB : Grow C.S F0 B F4 H4 := g01.trans (gr.trans ((g2.trans g3).trans g4))
      obtain ⟨F', g', wd', s', rp⟩ := R5.freeze (gB.mut m1 m2) (w4.mut m3 m2)
      refine ⟨.ref p, (gm3.grow g4).ok 3 _ rfl, hr F' _ (.ref p) _ wd' g' hrt ?_⟩
      have e : dataOf (ts.set j (q, us.set k' v3, row.set k' d3)) = (dataOf ts).set j (.list (row.set k' d3)) := by unfold dataOf; rw [List.map_set]
      rw [e] at rp
      exact rp
    · exact pn.elim
  · exact pd.elim
theorem P__law_bad_sights (vs : List V) (H : Hp) (Q : VK) (E : XK) (h : spP A St (vl1 W__law_bad_sights) vs H Q E) : t__law_bad_sights K w (spP A St (vl1 W__law_draw)) E { nx := fun _ H' => Q .non H', rt := Q } (L2.start N__law_bad_sights vs) H :=
  spP_body (N := N__law_bad_sights) (t := fun E => t__law_bad_sights K w (spP A St (vl1 W__law_draw)) E) h fun C hF ds rt er B F0 D hW hr hx hn => by
    obtain ⟨sights, rfl, h⟩ := vl1_inv hW
    unfold W__law_bad_sights at h
    show At C B F0 [.pool, .dat sights, .no, .no, .no, .no, .no, .no] (t__law_bad_sights K w (spP A St (vl1 W__law_draw)) E D)
    refine aw_seq ?_
    refine aw_asg (Γ' := fun way => [.pool, .dat sights, .dat way, .no, .no, .no, .no, .no]) (fun _ => rfl) (ew_callP hF rfl (aw_cons ew_int aw_nil)) (RaiseW.tt0 hx) h (fun way h => ?_)
    refine aw_seq ?_
    refine aw_raw (noOwn_ok rfl) (iw_seq (Ew.s (ew_var rfl))) (fun x Y h => by
      unfold seqW at h
      exact ⟨_, _, tg_name (by decide), nw_list (Ew.s (ew_var rfl)), h⟩) (RaiseW.tt0 hx) h (fun p ts B1 F1 g01 R h => ?_)
    have hx1 : RaiseW A C B1 F1 E er := fun F H cv dd n f w g => hx F H cv dd n f w (g01.trans g)
    show At C B1 F1 [.pool, .dat sights, .dat way, .ref p, .no, .no, .no, .no] _
    refine aw_seq ?_
    refine aw_asg (Γ' := fun worlds => [.pool, .dat sights, .dat way, .ref p, .dat worlds, .no, .no, .no]) (fun _ => rfl) (ew_len (Ew.s (ew_ix (Ew.s (ew_var rfl)) ew_int))) (RaiseW.tt0 hx1) h (fun worlds h => ?_)
    refine aw_seq ?_
    refine aw_if (tw_test (ew_op ov_eq (ew_var rfl) ew_int)) (RaiseW.tt0 hx1) h (fun h => ?_) (fun h => ?_)
    · exact thaw g01 R (i := 3) rfl (noOwn_ok rfl) (aw_ret hr (ew_tup aw_nil) (RaiseW.tt0 hx) h)
    · refine aw_next ?_
      refine aw_seq ?_
      refine aw_if (tw_test (ew_op ov_eq (ew_var rfl) ew_int)) (RaiseW.tt0 hx1) h (fun h => ?_) (fun h => ?_)
      · exact thaw g01 R (i := 3) rfl (noOwn_ok rfl) (aw_ret hr (Nw.fz (nw_lcM (Fw.it (fw_rng1 ew_int)) (fun x Y h => ⟨_, _, tg_name (by decide), (Nw.fz (nw_list (Ew.s (ew_ix (Ew.s (ew_var rfl)) ew_int)))), h⟩))) (RaiseW.tt0 hx) h)
      · refine aw_next ?_
        refine aw_seq ?_
        refine aw_if (tw_test (ew_op ov_eq (ew_var rfl) ew_int)) (RaiseW.tt0 hx1) h (fun h => ?_) (fun h => ?_)
        · exact thaw g01 R (i := 3) rfl (noOwn_ok rfl) (aw_ret hr (Nw.fz (nw_cat (Ew.ls (ew_sl (ew_var rfl) ow_none (ow_some ew_int))) (Nw.ls (nw_lst (aw_cons (Nw.fz (nw_cat (Nw.ls (nw_list (Ew.s (ew_ix (Ew.s (ew_var rfl)) ew_int)))) (Nw.ls (nw_lst (aw_cons ew_int aw_nil))))) aw_nil))))) (RaiseW.tt0 hx) h)
        · refine aw_next ?_
          refine aw_seq ?_
          refine aw_if (tw_test (ew_op ov_eq (ew_var rfl) ew_int)) (RaiseW.tt0 hx1) h (fun h => ?_) (fun h => ?_)
          · exact thaw g01 R (i := 3) rfl (noOwn_ok rfl) (aw_ret hr (Nw.fz (nw_lcM (iw_seq (Ew.s (ew_var rfl))) (fun x Y h => ⟨_, _, tg_name (by decide), (Nw.fz (nw_cat (Ew.ls (ew_var rfl)) (Nw.ls (nw_lcM (Fw.it (fw_rng1 (ew_op ov_sub ew_int (ew_var rfl)))) (fun x Y h => ⟨_, _, tg_name (by decide), ew_int, h⟩))))), h⟩))) (RaiseW.tt0 hx) h)
          · refine aw_next ?_
            refine aw_seq ?_
            refine aw_if (tw_test (ew_op ov_eq (ew_var rfl) ew_int)) (RaiseW.tt0 hx1) h (fun h => ?_) (fun h => ?_)
            · exact thaw g01 R (i := 3) rfl (noOwn_ok rfl) (aw_ret hr (ew_tupleL (Nw.ls (nw_lcM (iw_seq (Ew.s (ew_var rfl))) (fun x Y h => ⟨_, _, tg_name (by decide), (ew_tup aw_nil), h⟩)))) (RaiseW.tt0 hx) h)
            · refine aw_next ?_
              refine aw_seq ?_
              refine aw_if (tw_test (ew_op ov_eq (ew_var rfl) ew_int)) (RaiseW.tt0 hx1) h (fun h => ?_) (fun h => ?_)
              · exact thaw g01 R (i := 3) rfl (noOwn_ok rfl) (aw_ret hr ew_non (RaiseW.tt0 hx) h)
              · refine aw_next ?_
                refine aw_seq ?_
                refine aw_if (tw_test (ew_op ov_eq (ew_var rfl) ew_int)) (RaiseW.tt0 hx1) h (fun h => ?_) (fun h => ?_)
                · exact thaw g01 R (i := 3) rfl (noOwn_ok rfl) (aw_ret hr (ew_tupleL (Nw.ls (nw_cat (Ew.ls (ew_sl (ew_var rfl) ow_none (ow_some ew_int))) (Nw.ls (nw_lst (aw_cons ew_non aw_nil)))))) (RaiseW.tt0 hx) h)
                · refine aw_next ?_
                  refine aw_seq ?_
                  refine last_bad hF g01 R hr hx h

end Eh

namespace Eh
open PySem PySem.Spec PyProof.Rows L2
/-! ### plain laws of the readings over data -/
theorem ite_ok {b : Bool} {p q : Prop} (h1 : b = true → p) (h2 : b = false → q) : iteW b p q := by cases b; exact h2 rfl; exact h1 rfl
theorem nt {b : Bool} (h : (!b) = true) : b = false := by cases b; rfl; cases h
theorem nf {b : Bool} (h : (!b) = false) : b = true := by cases b; cases h; rfl
theorem iteT {b : Bool} {p q : Prop} (e : b = true) (h : p) : iteW b p q := by rw [e]; exact h
theorem iteF {b : Bool} {p q : Prop} (e : b = false) (h : q) : iteW b p q := by rw [e]; exact h
section
variable {α β σ : Type}
theorem lcGo_ok {enc f : α → PyData} {p : α → Bool} {body : PyData → DP → Prop → Prop} : ∀ {xs : List α} {k : List PyData → Prop}, (∀ x ∈ xs, ∀ Y N, (p x = true → Y (f x)) → (p x = false → N) → body (enc x) Y N) → k ((xs.filter p).map f) → lcGo body (xs.map enc) k
  | [], k, _, hk => hk
  | x :: xs, k, hb, hk => by
    refine hb x List.mem_cons_self _ _ (fun hp => ?_) fun hp => ?_
    · refine lcGo_ok (fun y hy => hb y (List.mem_cons_of_mem _ hy)) ?_
      rw [List.filter_cons, if_pos hp] at hk; exact hk
    · refine lcGo_ok (fun y hy => hb y (List.mem_cons_of_mem _ hy)) ?_
      rw [List.filter_cons, if_neg (by rw [hp]; exact Bool.false_ne_true)] at hk; exact hk
theorem lc_ok {xs : List α} (enc f : α → PyData) (p : α → Bool) {body : PyData → DP → Prop → Prop} {k : List PyData → Prop} (hz : xs.length ≤ 100000) (hb : ∀ x ∈ xs, ∀ Y N, (p x = true → Y (f x)) → (p x = false → N) → body (enc x) Y N) (hk : k ((xs.filter p).map f)) : lcW (xs.map enc) body k :=
  ⟨by rw [List.length_map]; exact hz, lcGo_ok hb hk⟩
theorem lcM_ok {xs : List α} (enc f : α → PyData) {body : PyData → DP → Prop} {k : List PyData → Prop} (hz : xs.length ≤ 100000) (hb : ∀ x ∈ xs, ∀ Y, Y (f x) → body (enc x) Y) (hk : k (xs.map f)) : lcMW (xs.map enc) body k :=
  lc_ok enc f (fun _ => true) hz (fun x hx Y N h1 _ => hb x hx Y (h1 rfl)) (by rw [List.filter_eq_self.mpr fun _ _ => rfl]; exact hk)
/-- items whose values are drawn -/
theorem lcMGo_any {enc : α → PyData} {e : β → PyData} {Q : α → β → Prop} {body : PyData → DP → Prop} : ∀ {xs : List α} {k : List PyData → Prop}, (∀ x ∈ xs, ∀ Y, (∀ r, Q x r → Y (e r)) → body (enc x) Y) →
    (∀ rs : List β, rs.length = xs.length → (∀ (i : Nat) x r, xs[i]? = some x → rs[i]? = some r → Q x r) → k (rs.map e)) → lcGo (fun x Y _ => body x Y) (xs.map enc) k
  | [], k, _, hk => hk [] rfl fun i x r e => by simp at e
  | x :: xs, k, hb, hk => hb x List.mem_cons_self _ fun r hr => lcMGo_any (fun y hy => hb y (List.mem_cons_of_mem _ hy)) fun rs hl h => hk (r :: rs) (by rw [List.length_cons, List.length_cons, hl]) fun i y s e1 e2 => by
    cases i with
    | zero => cases e1; cases e2; exact hr
    | succ i => exact h i y s (by simpa using e1) (by simpa using e2)
theorem lcM_any {xs : List α} (enc : α → PyData) (e : β → PyData) (Q : α → β → Prop) {body : PyData → DP → Prop} {k : List PyData → Prop} (hz : xs.length ≤ 100000) (hb : ∀ x ∈ xs, ∀ Y, (∀ r, Q x r → Y (e r)) → body (enc x) Y)
    (hk : ∀ rs : List β, rs.length = xs.length → (∀ (i : Nat) x r, xs[i]? = some x → rs[i]? = some r → Q x r) → k (rs.map e)) : lcMW (xs.map enc) body k :=
  ⟨by rw [List.length_map]; exact hz, lcMGo_any hb hk⟩
/-- .. which items are let is drawn -/
theorem lcGo_any {enc f : α → PyData} {T : α → Bool → Prop} {body : PyData → DP → Prop → Prop} : ∀ {xs : List α} {k : List PyData → Prop}, xs.Nodup → (∀ x ∈ xs, ∀ Y N, (T x true → Y (f x)) → (T x false → N) → body (enc x) Y N) →
    (∀ p : α → Bool, (∀ x ∈ xs, T x (p x)) → k ((xs.filter p).map f)) → lcGo body (xs.map enc) k
  | [], k, _, _, hk => hk (fun _ => true) fun x hx => absurd hx List.not_mem_nil
  | x :: xs, k, hn, hb, hk => by
    classical
    rw [List.nodup_cons] at hn
    refine hb x List.mem_cons_self _ _ (fun ht => ?_) fun ht => ?_
    · refine lcGo_any hn.2 (fun y hy => hb y (List.mem_cons_of_mem _ hy)) fun p hp => ?_
      have := hk (fun y => if y = x then true else p y) fun y hy => by
        by_cases e : y = x
        · subst e; rw [if_pos rfl]; exact ht
        · rw [if_neg e]; exact hp y ((List.mem_cons.mp hy).resolve_left e)
      rw [List.filter_cons, if_pos (by simp)] at this
      have e2 : ∀ y ∈ xs, (fun y => if y = x then true else p y) y = p y := fun y hy => if_neg (fun e : y = x => hn.1 (e ▸ hy))
      rwa [List.filter_congr e2] at this
    · refine lcGo_any hn.2 (fun y hy => hb y (List.mem_cons_of_mem _ hy)) fun p hp => ?_
      have := hk (fun y => if y = x then false else p y) fun y hy => by
        by_cases e : y = x
        · subst e; rw [if_pos rfl]; exact ht
        · rw [if_neg e]; exact hp y ((List.mem_cons.mp hy).resolve_left e)
      rw [List.filter_cons, if_neg (by simp)] at this
      have e2 : ∀ y ∈ xs, (fun y => if y = x then false else p y) y = p y := fun y hy => if_neg (fun e : y = x => hn.1 (e ▸ hy))
      rwa [List.filter_congr e2] at this
theorem lc_any {xs : List α} (enc f : α → PyData) (T : α → Bool → Prop) {body : PyData → DP → Prop → Prop} {k : List PyData → Prop} (hz : xs.length ≤ 100000) (hn : xs.Nodup) (hb : ∀ x ∈ xs, ∀ Y N, (T x true → Y (f x)) → (T x false → N) → body (enc x) Y N)
    (hk : ∀ p : α → Bool, (∀ x ∈ xs, T x (p x)) → k ((xs.filter p).map f)) : lcW (xs.map enc) body k := ⟨by rw [List.length_map]; exact hz, lcGo_any hn hb hk⟩
/-- for -/
theorem for_inv {enc : α → PyData} {body : PyData → σ → (σ → Prop) → (σ → Prop) → Prop} {done : σ → Prop} (Inv : Nat → σ → Prop) : ∀ {xs : List α} {s : σ} (n : Nat), Inv n s →
    (∀ i x s, xs[i]? = some x → Inv (n + i) s → ∀ nx bk, (∀ s', Inv (n + i + 1) s' → nx s') → (∀ s', done s' → bk s') → body (enc x) s nx bk) → (∀ s, Inv (n + xs.length) s → done s) → forW body done (xs.map enc) s
  | [], s, n, h0, _, hd => hd s h0
  | x :: xs, s, n, h0, hb, hd => by
    refine hb 0 x s rfl h0 _ _ (fun s' h' => ?_) fun s' h => h
    refine for_inv Inv (xs := xs) (n + 1) h' (fun i y s hy hi nx bk h1 h2 => ?_) fun s h => hd s (by rw [List.length_cons, show n + (xs.length + 1) = n + 1 + xs.length by omega]; exact h)
    have := hb (i + 1) y s (by simpa using hy)
    rw [show n + (i + 1) = n + 1 + i by omega] at this
    exact this hi nx bk h1 h2
theorem for_ok {xs : List α} (enc : α → PyData) {body : PyData → σ → (σ → Prop) → (σ → Prop) → Prop} {done : σ → Prop} {s0 : σ} (Inv : Nat → σ → Prop) (h0 : Inv 0 s0)
    (hb : ∀ i x s, xs[i]? = some x → Inv i s → ∀ nx bk, (∀ s', Inv (i + 1) s' → nx s') → (∀ s', done s' → bk s') → body (enc x) s nx bk) (hd : ∀ s, Inv xs.length s → done s) : forW body done (xs.map enc) s0 :=
  for_inv Inv 0 h0 (fun i x s hx hi => by rw [Nat.zero_add] at hi ⊢; exact hb i x s hx hi) (by rw [Nat.zero_add]; exact hd)
/-- .. that changes nothing -/
theorem for_const {xs : List α} (enc : α → PyData) {body : PyData → σ → (σ → Prop) → (σ → Prop) → Prop} {done : σ → Prop} {s0 : σ} (hb : ∀ x ∈ xs, ∀ nx bk, nx s0 → (∀ s', done s' → bk s') → body (enc x) s0 nx bk) (hd : done s0) : forW body done (xs.map enc) s0 :=
  for_ok enc (fun _ s => s = s0) rfl (fun i x s hx e nx bk h1 h2 => by subst e; exact hb x (List.mem_of_getElem? hx) nx bk (h1 _ rfl) h2) fun s e => by subst e; exact hd
end
/-! numbers -/
abbrev iD (n : Nat) : PyData := .int (n : Nat)
def rgN (n : Nat) : List PyData := (List.range n).map iD
theorem rng_ok {n : Nat} {k : List PyData → Prop} (h : n ≤ 100000) (hk : k ((List.range n).map iD)) : rngW (.int (n : Nat)) k := ⟨by omega, by omega, by unfold rgI; rw [Int.toNat_natCast]; exact hk⟩
theorem rgL_ok {n : Nat} {k : List PyData → Prop} (h : n ≤ 100000) (hk : k ((List.range n).map iD)) : rgLW (.int (n : Nat)) k := ⟨by omega, by omega, by unfold rgI; rw [Int.toNat_natCast]; exact hk⟩
theorem ix_ok {xs : List PyData} {n : Nat} {d : PyData} {k : DP} (h : xs[n]? = some d) (hk : k d) : ixW xs (.int (n : Nat)) k := ⟨d, atI_nat h, hk⟩
theorem set_ok {xs : List PyData} {n : Nat} {d : PyData} {k : List PyData → Prop} (h : n < xs.length) (hk : k (xs.set n d)) : setW xs (.int (n : Nat)) d k := ⟨n, ixN_nat h, hk⟩
theorem eqI_ok {i j : Int} {k : DP} (hk : k (.bool (decide (i = j)))) : eqW (.int i) (.int j) k := ⟨rfl, rfl, by
  show k (.bool (i == j)); rw [show (i == j) = decide (i = j) from Bool.beq_eq_decide_eq ..]; exact hk⟩
theorem neI_ok {i j : Int} {k : DP} (hk : k (.bool (!decide (i = j)))) : neW (.int i) (.int j) k := ⟨rfl, rfl, by
  show k (.bool (!(i == j))); rw [show (i == j) = decide (i = j) from Bool.beq_eq_decide_eq ..]; exact hk⟩
theorem eqN_ok {i j : Nat} {k : DP} (hk : k (.bool (decide (i = j)))) : eqW (.int (i : Nat)) (.int (j : Nat)) k := eqI_ok (by rw [show decide ((i : Int) = (j : Int)) = decide (i = j) from decide_eq_decide.mpr Int.ofNat_inj]; exact hk)
theorem neN_ok {i j : Nat} {k : DP} (hk : k (.bool (!decide (i = j)))) : neW (.int (i : Nat)) (.int (j : Nat)) k := neI_ok (by rw [show decide ((i : Int) = (j : Int)) = decide (i = j) from decide_eq_decide.mpr Int.ofNat_inj]; exact hk)
theorem all_ok {α : Type} {xs : List α} {p : α → Bool} {k : DP} (hk : k (.bool (xs.all p))) : allW (xs.map fun x => .bool (p x)) k := ⟨xs.map p, by rw [List.map_map]; rfl, by rw [List.all_map]; exact hk⟩
theorem any_ok {α : Type} {xs : List α} {p : α → Bool} {k : DP} (hk : k (.bool (xs.any p))) : anyW (xs.map fun x => .bool (p x)) k := ⟨xs.map p, by rw [List.map_map]; rfl, by rw [List.any_map]; exact hk⟩
theorem sum_ok {α : Type} {xs : List α} {f : α → Int} {k : DP} (hk : k (.int ((xs.map f).sum))) : sumW (xs.map fun x => .int (f x)) k := ⟨xs.map f, by rw [List.map_map]; rfl, hk⟩
theorem inN_ok {n : Nat} {ns : List Nat} {k : DP} (hk : k (.bool (decide (n ∈ ns)))) : inW (.int (n : Nat)) (ns.map iD) k := ⟨rfl, flat_nats ns, by
  rw [show (ns.map iD).any (fun z => PyData.eqv z (.int (n : Nat))) = decide (n ∈ ns) from any_nats ns n]; exact hk⟩
theorem niN_ok {n : Nat} {ns : List Nat} {k : DP} (hk : k (.bool (!decide (n ∈ ns)))) : niW (.int (n : Nat)) (ns.map iD) k := ⟨rfl, flat_nats ns, by
  rw [show (ns.map iD).any (fun z => PyData.eqv z (.int (n : Nat))) = decide (n ∈ ns) from any_nats ns n]; exact hk⟩
theorem draw_ok {n : Nat} {k : DP} (h : 0 < n) (h2 : n < 1073741824) (hk : ∀ r : Nat, r < n → k (.int (r : Nat))) : drawW (.int (n : Nat)) k := ⟨by omega, by omega, fun r h0 h1 => by
  have := hk r.toNat (by omega)
  rwa [show ((r.toNat : Nat) : Int) = r by omega] at this⟩
theorem or_ok {t u : (Bool → Prop) → Prop} {k : Bool → Prop} (b : Bool) (h1 : ∀ k, k b → t k) (h2 : b = false → u k) (h3 : b = true → k true) : orW t u k := h1 _ (by cases b; exact h2 rfl; exact h3 rfl)
theorem and_ok {t u : (Bool → Prop) → Prop} {k : Bool → Prop} (b : Bool) (h1 : ∀ k, k b → t k) (h2 : b = true → u k) (h3 : b = false → k false) : andW t u k := h1 _ (by cases b; exact h3 rfl; exact h2 rfl)
/-- data that == can be asked of -/
def ShD (n : Nat) (d : PyData) : Prop := PyData.canLay0 d = true ∧ PyData.depth d ≤ n
theorem shD_int (i : Int) {n : Nat} : ShD n (.int i) := ⟨rfl, Nat.zero_le _⟩
theorem shD_bl (i : Bool) {n : Nat} : ShD n (.bool i) := ⟨rfl, Nat.zero_le _⟩
theorem shD_non {n : Nat} : ShD n .none := ⟨rfl, Nat.zero_le _⟩
theorem shDAll {n : Nat} : ∀ {ds : List PyData}, (∀ d ∈ ds, ShD n d) → PyData.canLayAll0 ds = true ∧ PyData.depthAll ds ≤ n
  | [], _ => ⟨rfl, Nat.zero_le _⟩
  | d :: ds, h => by
    have a := h d List.mem_cons_self
    have b := shDAll fun e he => h e (List.mem_cons_of_mem _ he)
    exact ⟨by show (PyData.canLay0 d && PyData.canLayAll0 ds) = true; rw [a.1, b.1]; rfl, Nat.max_le.mpr ⟨a.2, b.2⟩⟩
theorem shD_list {n : Nat} {ds : List PyData} (h : ∀ d ∈ ds, ShD n d) : ShD (n + 1) (.list ds) := ⟨(shDAll h).1, Nat.succ_le_succ (shDAll h).2⟩
theorem shD_tup {n : Nat} {ds : List PyData} (h : ∀ d ∈ ds, ShD n d) : ShD (n + 1) (.tuple ds) := ⟨(shDAll h).1, Nat.succ_le_succ (shDAll h).2⟩
theorem ShD.sh {n : Nat} {d : PyData} (h : ShD n d) (k : n ≤ 64) : SeqAt.shaped d = true := by
  unfold SeqAt.shaped
  rw [h.1, decide_eq_true (Nat.le_trans h.2 k)]; rfl
mutual
theorem eqv_rfl : ∀ (d : PyData), PyData.canLay0 d = true → PyData.eqv d d = true
  | .none, _ => rfl
  | .bool b, _ => by cases b <;> rfl
  | .int i, _ => by show (i == i) = true; simp
  | .str s, _ => by show (s == s) = true; simp
  | .list xs, h => eqvAll_rfl xs h
  | .tuple xs, h => eqvAll_rfl xs h
  | .dict _, h => by cases h
theorem eqvAll_rfl : ∀ (xs : List PyData), PyData.canLayAll0 xs = true → PyData.eqvAll xs xs = true
  | [], _ => rfl
  | x :: xs, h => by
    have h' : (PyData.canLay0 x && PyData.canLayAll0 xs) = true := h
    rw [Bool.and_eq_true] at h'
    show (PyData.eqv x x && PyData.eqvAll xs xs) = true
    rw [eqv_rfl x h'.1, eqvAll_rfl xs h'.2]; rfl
end
theorem eqSelf_ok {d : PyData} {n : Nat} {k : DP} (h : ShD n d) (hn : n ≤ 64) (hk : k (.bool true)) : eqW d d k := ⟨h.sh hn, h.sh hn, by rw [eqv_rfl d h.1]; exact hk⟩
end Eh

namespace Eh
open PySem PySem.Spec PyProof.Rows L2
/-! ### the laws on knowing: plain laws of what they share -/
abbrev lotN (xs : List Nat) : PyData := .tuple (xs.map iD)
abbrev tupR (s : List Int) : PyData := .tuple (s.map .int)
abbrev lstR (s : List Int) : PyData := .list (s.map .int)
def lsq : PyData → List PyData | .list xs => xs | .tuple xs => xs | _ => []
def isSq (d : PyData) : Bool := isLstD d || isTupD d
def listedB (d : PyData) : Bool := isSq d && (lsq d).all isIntD
def ftB (d : PyData) (a b : Int) : Bool := match d with | .int i => decide (a ≤ i) && decide (i ≤ b) | _ => false
theorem seq_ok {d : PyData} {k : List PyData → Prop} (h : isSq d = true) (hk : k (lsq d)) : seqW d k := by cases d <;> first | exact hk | cases h
section
variable {rt : PyData → Prop} {rn : List PyData → Prop} {er : XP} {d : PyData}
theorem w_is_integer (h : rt (.bool (isIntD d))) : W_is_integer d rt er := by
  unfold W_is_integer
  cases d <;> exact h
theorem w_is_listed (hz : (lsq d).length ≤ 100000) (h : rt (.bool (listedB d))) : W_is_listed d rt er := by
  unfold W_is_listed
  have key : ∀ xs : List PyData, xs.length ≤ 100000 → rt (.bool (xs.all isIntD)) → lcMW xs (fun value Y => W_is_integer value (fun t2 => Y t2) noX) fun l2 => allW l2 fun t3 => rt t3 := fun xs hz h => by
    have := lcM_ok (xs := xs) id (fun x => .bool (isIntD x)) (body := fun value Y => W_is_integer value (fun t2 => Y t2) noX) (k := fun l2 => allW l2 fun t3 => rt t3) hz (fun x _ Y hY => w_is_integer hY) (all_ok h)
    rwa [List.map_id] at this
  cases d with
  | list xs => exact key xs hz h
  | tuple xs => exact key xs hz h
  | _ => exact h
theorem w_is_from_to {a b : Int} (h : rt (.bool (ftB d a b))) : W_is_from_to d (.int a) (.int b) rt er := by
  unfold W_is_from_to
  refine w_is_integer ?_
  cases d with
  | int i =>
    show iteW (decide (a ≤ i)) (rt (.bool (decide (i ≤ b)))) (rt (.bool false))
    have h : rt (.bool (decide (a ≤ i) && decide (i ≤ b))) := h
    cases e : decide (a ≤ i) with
    | true => rw [e] at h; exact h
    | false => rw [e] at h; exact h
  | _ => exact h
theorem w_check_number {a b : Int} (h1 : ftB d a b = true → rt .none) (h2 : ftB d a b = false → er "BadNumber" none) : W_check_number d (.int a) (.int b) rt er := by
  unfold W_check_number
  refine w_is_from_to ?_
  show iteW (!ftB d a b) _ _
  cases e : ftB d a b with
  | true => exact h1 e
  | false => exact h2 e
/-- lots -/
def lotGo (m : Int) : Int → List PyData → Bool
  | _, [] => true
  | least, x :: xs => ftB x least (m - 1) && lotGo m (match x with | .int i => i + 1 | _ => 0) xs
def lotB (d : PyData) (m : Int) : Bool := match d with | .tuple xs => lotGo m 0 xs | _ => false
theorem w_is_lot {m : Int} (h : rt (.bool (lotB d m))) : W_is_lot d (.int m) rt er := by
  unfold W_is_lot
  cases d with
  | tuple xs =>
    show forW (σ := PyData) _ _ xs (.int 0)
    have h' : rt (.bool (lotGo m 0 xs)) := h
    generalize (0 : Int) = least at h'
    clear h
    induction xs generalizing least with
    | nil => exact h'
    | cons x xs ih =>
      show W_is_from_to x (.int least) (.int (m - 1)) _ er
      refine w_is_from_to ?_
      unfold lotGo at h'
      show iteW (!ftB x least (m - 1)) (rt (.bool false)) _
      cases e : ftB x least (m - 1) with
      | false => rw [e] at h'; exact h'
      | true =>
        rw [e] at h'
        cases x with
        | int i => exact ih (i + 1) h'
        | _ => cases e
  | _ => exact h
theorem lotGo_nats {n : Nat} : ∀ {xs : List Nat} {least : Int}, (∀ x ∈ xs, least ≤ (x : Int) ∧ x < n) → xs.Pairwise (· < ·) → lotGo n least (xs.map iD) = true
  | [], _, _, _ => rfl
  | x :: xs, least, h, hp => by
    rw [List.pairwise_cons] at hp
    have h0 := h x List.mem_cons_self
    show ((decide (least ≤ (x : Int)) && decide ((x : Int) ≤ (n : Int) - 1)) && lotGo n ((x : Int) + 1) (xs.map iD)) = true
    rw [decide_eq_true h0.1, decide_eq_true (by omega), lotGo_nats (fun y hy => ⟨by have := hp.1 y hy; omega, (h y (List.mem_cons_of_mem _ hy)).2⟩) hp.2]; rfl
/-- a lot of worlds -/
def Lot (n : Nat) (xs : List Nat) : Prop := (∀ x ∈ xs, x < n) ∧ xs.Pairwise (· < ·)
theorem Lot.b {n : Nat} {xs : List Nat} (h : Lot n xs) : lotB (lotN xs) n = true := lotGo_nats (fun x hx => ⟨by omega, h.1 x hx⟩) h.2
theorem pw_range (n : Nat) : (List.range n).Pairwise (· < ·) := List.pairwise_lt_range
theorem lot_filter (n : Nat) (p : Nat → Bool) : Lot n ((List.range n).filter p) := ⟨fun x hx => List.mem_range.mp (List.mem_filter.mp hx).1, (pw_range n).filter p⟩
theorem Lot.filter {n : Nat} {xs : List Nat} (h : Lot n xs) (p : Nat → Bool) : Lot n (xs.filter p) := ⟨fun x hx => h.1 x (List.mem_filter.mp hx).1, h.2.filter p⟩
theorem pw_len {n : Nat} : ∀ {xs : List Nat} {a : Nat}, (∀ x ∈ xs, a ≤ x ∧ x < n) → xs.Pairwise (· < ·) → a ≤ n → xs.length + a ≤ n
  | [], a, _, _, h => by simpa using h
  | x :: xs, a, h, hp, ha => by
    rw [List.pairwise_cons] at hp
    have h0 := h x List.mem_cons_self
    have := pw_len (a := x + 1) (fun y hy => ⟨hp.1 y hy, (h y (List.mem_cons_of_mem _ hy)).2⟩) hp.2 (by omega)
    rw [List.length_cons]; omega
theorem Lot.len {n : Nat} {xs : List Nat} (h : Lot n xs) : xs.length ≤ n := pw_len (a := 0) (fun x hx => ⟨Nat.zero_le _, h.1 x hx⟩) h.2 (Nat.zero_le _)
theorem chain_le {i j l : Int} {k : DP} (h : k (.bool (decide (i ≤ j) && decide (j ≤ l)))) : chainW leW leW (.int i) (.int j) (fun k => k (.int l)) k := by
  show iteW (decide (i ≤ j)) (k (.bool (decide (j ≤ l)))) (k (.bool false))
  cases e : decide (i ≤ j) with
  | true => rw [e] at h; exact h
  | false => rw [e] at h; exact h
/-- sights -/
structure GoodS (n : Nat) (ss : List (List Int)) : Prop where
  p1 : 1 ≤ ss.length
  p4 : ss.length ≤ 4
  n1 : 1 ≤ n
  n10 : n ≤ 10
  row : ∀ s ∈ ss, s.length = n ∧ ∀ x ∈ s, 0 ≤ x
def nnB (x : PyData) : Bool := match x with | .int i => decide (0 ≤ i) | _ => false
def rowB (n : Int) (d : PyData) : Bool := listedB d && (decide (1 ≤ ((lsq d).length : Int)) && decide (((lsq d).length : Int) ≤ 10)) && decide (((lsq d).length : Int) = n) && (lsq d).all nnB
def okSB (d : PyData) : Bool := isSq d && (decide (1 ≤ ((lsq d).length : Int)) && decide (((lsq d).length : Int) ≤ 4)) && (lsq d).all (rowB ((lsq ((lsq d).getD 0 .none)).length : Nat))
theorem w_check_sights (hz : ∀ r ∈ lsq d, (lsq r).length ≤ 100000) (h1 : okSB d = true → rn ((lsq d).map fun r => .tuple (lsq r))) (h2 : okSB d = false → er "BadWorlds" none) : W_check_sights d rn er := by
  unfold W_check_sights
  by_cases hs : isSq d = true
  · have hsq : ∀ {k : List PyData → Prop}, k (lsq d) → seqW d k := fun h => seq_ok hs h
    refine or_ok (!isSq d) (fun k h => h) (fun _ => ?_) fun e => by rw [hs] at e; cases e
    refine hsq ?_
    unfold okSB at h1 h2
    rw [hs, Bool.true_and] at h1 h2
    generalize hxs : lsq d = xs at hz h1 h2 hsq
    refine chain_le ?_
    refine ite_ok (fun e => h2 (by
      have e' : (decide (1 ≤ (xs.length : Int)) && decide ((xs.length : Int) ≤ 4)) = false := nt e
      rw [e']; rfl)) fun e => ?_
    have e' : (decide (1 ≤ (xs.length : Int)) && decide ((xs.length : Int) ≤ 4)) = true := nf e
    rw [e', Bool.true_and] at h1 h2
    rw [Bool.and_eq_true, decide_eq_true_eq, decide_eq_true_eq] at e'
    obtain ⟨hl, hl4⟩ := e'
    · · refine hsq ?_
        cases xs with
        | nil => exact absurd hl (by decide)
        | cons x0 rest =>
          have hg : (x0 :: rest).getD 0 .none = x0 := rfl
          rw [hg] at h1 h2
          generalize hn : (((lsq x0).length : Nat) : Int) = n0 at h1 h2
          have hbody : ∀ (y : PyData) (nx : Unit → Prop), (lsq y).length ≤ 100000 → (listedB y = true → isSq x0 = true) → (rowB n0 y = true → nx ()) → (rowB n0 y = false → er "BadWorlds" none) →
              orW (fun k7 => W_is_listed y (fun t4 => boolW t4 fun b4 => k7 (!b4)) er) (fun k8 => orW (fun k5 => seqW y fun l3 => lenW l3 fun t5 => chainW leW leW (.int 1) t5 (fun k4 => k4 (.int 10)) fun t6 => boolW t6 fun b5 => k5 (!b5)) (fun k6 => seqW y fun l4 => lenW l4 fun t7 => seqW d fun l5 => ixW l5 (.int 0) fun t8 => seqW t8 fun l6 => lenW l6 fun t9 => neW t7 t9 fun t10 => boolW t10 fun b6 => k6 b6) fun b7 => k8 b7) fun b8 => iteW b8 (er "BadWorlds" none) (seqW y fun l7 => lcMW l7 (fun number Y => geW number (.int 0) fun t11 => Y t11) fun l8 => allW l8 fun t12 => boolW t12 fun b9 => iteW (!b9) (er "BadWorlds" none) (nx ())) := fun y nx hzy hx0 hy1 hy2 => by
            unfold rowB at hy1 hy2
            refine or_ok (!listedB y) (fun k h => w_is_listed hzy h) (fun e => ?_) (fun e => by
              have e' : listedB y = false := by simpa using e
              exact hy2 (by rw [e']; rfl))
            have e' : listedB y = true := by simpa using e
            rw [e', Bool.true_and] at hy1 hy2
            have hq : isSq y = true := by unfold listedB at e'; rw [Bool.and_eq_true] at e'; exact e'.1
            refine or_ok (!(decide (1 ≤ ((lsq y).length : Int)) && decide (((lsq y).length : Int) ≤ 10))) (fun k h => seq_ok hq ?_) (fun e2 => ?_) (fun e2 => by
              have e3 : (decide (1 ≤ ((lsq y).length : Int)) && decide (((lsq y).length : Int) ≤ 10)) = false := nt e2
              exact hy2 (by rw [e3]; rfl))
            · exact chain_le h
            · have e3 : (decide (1 ≤ ((lsq y).length : Int)) && decide (((lsq y).length : Int) ≤ 10)) = true := nf e2
              rw [e3, Bool.true_and] at hy1 hy2
              refine seq_ok hq (hsq ?_)
              refine ix_ok (n := 0) rfl (seq_ok (hx0 e') ?_)
              refine neI_ok ?_
              rw [hn]
              show iteW (!decide (((lsq y).length : Int) = n0)) _ _
              by_cases e4 : ((lsq y).length : Int) = n0
              · rw [decide_eq_true e4, Bool.true_and] at hy1 hy2
                rw [decide_eq_true e4]
                refine seq_ok hq ?_
                have hints : ∀ x ∈ lsq y, isIntD x = true := by
                  unfold listedB at e'; rw [Bool.and_eq_true, List.all_eq_true] at e'; exact e'.2
                have hk := lcM_ok (xs := lsq y) id (fun x => .bool (nnB x)) (body := fun number Y => geW number (.int 0) fun t11 => Y t11) (k := fun l8 => allW l8 fun t12 => boolW t12 fun b9 => iteW (!b9) (er "BadWorlds" none) (nx ())) hzy (fun x hx Y hY => by
                  have := hints x hx
                  cases x with
                  | int i => exact hY
                  | _ => cases this) (all_ok (by
                    show iteW (!(lsq y).all _) _ _
                    cases e5 : (lsq y).all nnB with
                    | true => exact hy1 e5
                    | false => exact hy2 e5))
                rwa [List.map_id] at hk
              · rw [decide_eq_false e4] at hy1 hy2 ⊢
                exact hy2 rfl
          have hdone : (x0 :: rest).all (rowB n0) = true → seqW d fun l9 => lcMW l9 (fun sight2 Y2 => seqW sight2 fun l10 => tupW l10 fun t13 => Y2 t13) fun l11 => rn l11 := fun ha => by
            refine hsq ?_
            rw [List.all_eq_true] at ha
            have hk := lcM_ok (xs := x0 :: rest) id (fun r => .tuple (lsq r)) (body := fun sight2 Y2 => seqW sight2 fun l10 => tupW l10 fun t13 => Y2 t13) (k := fun l11 => rn l11) (by omega) (fun x hx Y hY => seq_ok (by
              have := ha x hx
              unfold rowB listedB at this
              simp only [Bool.and_eq_true] at this
              exact this.1.1.1.1) hY) (h1 (List.all_eq_true.mpr ha))
            rwa [List.map_id] at hk
          refine hbody x0 _ (hz x0 List.mem_cons_self) (fun e => by unfold listedB at e; rw [Bool.and_eq_true] at e; exact e.1) (fun hx0 => ?_) (fun hx0 => h2 (by rw [List.all_cons, hx0]; rfl))
          have hq0 : isSq x0 = true := by
            unfold rowB listedB at hx0
            simp only [Bool.and_eq_true] at hx0
            exact hx0.1.1.1.1
          have h3 : rest.all (rowB n0) = true → seqW d fun l9 => lcMW l9 (fun sight2 Y2 => seqW sight2 fun l10 => tupW l10 fun t13 => Y2 t13) fun l11 => rn l11 := fun e => hdone (by rw [List.all_cons, hx0, e]; rfl)
          have h4 : rest.all (rowB n0) = false → er "BadWorlds" none := fun e => h2 (by rw [List.all_cons, hx0, e]; rfl)
          have hz' : ∀ r ∈ rest, (lsq r).length ≤ 100000 := fun r hr => hz r (List.mem_cons_of_mem _ hr)
          clear h1 h2 hdone hl hl4 hz hxs hsq e hg
          induction rest with
          | nil => exact h3 rfl
          | cons y rest ih =>
            refine hbody y _ (hz' y List.mem_cons_self) (fun _ => hq0) (fun hy => ?_) (fun hy => h4 (by rw [List.all_cons, hy]; rfl))
            exact ih (fun e => h3 (by rw [List.all_cons, hy, e]; rfl)) (fun e => h4 (by rw [List.all_cons, hy, e]; rfl)) fun r hr => hz' r (List.mem_cons_of_mem _ hr)
  · have hs' : isSq d = false := by simpa using hs
    have h3 := h2 (by unfold okSB; rw [hs']; rfl)
    cases d <;> first | exact h3 | cases hs'
end
end Eh

namespace Eh
open PySem PySem.Spec PyProof.Rows L2
section
variable {rt : PyData → Prop} {rn : List PyData → Prop} {er : XP} {d e : PyData} {n w : Nat} {s : List Int} {ss : List (List Int)} {ev : List Nat}
/-! what one with a sight thinks possible, knows; what all know -/
def partN (s : List Int) (w : Nat) : List Nat := (List.range s.length).filter fun u => decide (s.getD u 0 = s.getD w 0)
def knownN (s : List Int) (ev : List Nat) : List Nat := (List.range s.length).filter fun w => (partN s w).all fun u => decide (u ∈ ev)
def allKnowN (n : Nat) (ss : List (List Int)) (ev : List Nat) : List Nat := (List.range n).filter fun w => ss.all fun s => decide (w ∈ knownN s ev)
/-- a row as a list or a tuple -/
def RowD (s : List Int) (d : PyData) : Prop := d = lstR s ∨ d = tupR s
def LotD (ev : List Nat) (d : PyData) : Prop := d = lotN ev ∨ d = .list (ev.map iD)
theorem RowD.seq {k : List PyData → Prop} (h : RowD s d) (hk : k (s.map .int)) : seqW d k := by rcases h with rfl | rfl <;> exact hk
theorem LotD.seq {k : List PyData → Prop} (h : LotD ev d) (hk : k (ev.map iD)) : seqW d k := by rcases h with rfl | rfl <;> exact hk
theorem row_at (h : w < s.length) : (s.map PyData.int)[w]? = some (.int (s.getD w 0)) := by
  rw [List.getElem?_map, List.getElem?_eq_getElem h, List.getD_eq_getElem?_getD, List.getElem?_eq_getElem h]; rfl
theorem enumD_eq (s : List Int) : enumD (s.map .int) = (List.range s.length).map fun u => .tuple [iD u, .int (s.getD u 0)] := by
  unfold enumD
  refine List.ext_getElem? fun i => ?_
  by_cases h : i < s.length
  · rw [List.getElem?_map, zip_get, row_at h, List.getElem?_map, List.getElem?_range h]
    show some _ = some _
    simp
  · rw [List.getElem?_eq_none (by simpa using h), List.getElem?_eq_none (by simpa using h)]
theorem partN_lot (s : List Int) (w : Nat) : Lot s.length (partN s w) := lot_filter _ _
theorem knownN_lot (s : List Int) (ev : List Nat) : Lot s.length (knownN s ev) := lot_filter _ _
theorem allKnowN_lot (n : Nat) (ss : List (List Int)) (ev : List Nat) : Lot n (allKnowN n ss ev) := lot_filter _ _
theorem mem_part {u : Nat} : u ∈ partN s w ↔ u < s.length ∧ s.getD u 0 = s.getD w 0 := by unfold partN; rw [List.mem_filter, List.mem_range, decide_eq_true_eq]
theorem w_possible (hr : RowD s d) (hw : w < s.length) (hz : s.length ≤ 100000) (h : rt (lotN (partN s w))) : W_possible d (iD w) rt er := by
  unfold W_possible
  refine hr.seq ?_
  show lcW (enumD (s.map .int)) _ _
  rw [enumD_eq]
  refine lc_ok (fun u : Nat => .tuple [iD u, .int (s.getD u 0)]) iD (fun u => decide (s.getD u 0 = s.getD w 0)) (by simpa using hz) (fun u hu Y N h1 h2 => ?_) h
  refine hr.seq (ix_ok (row_at hw) (eqI_ok ?_))
  exact ite_ok h1 h2
theorem w_known_at (hr : RowD s d) (he : LotD ev e) (hz : s.length ≤ 100000) (h : rt (lotN (knownN s ev))) : W_known_at d e rt er := by
  unfold W_known_at
  refine hr.seq ?_
  show rngW (.int ((s.map PyData.int).length : Nat)) _
  rw [List.length_map]
  refine rng_ok hz (lc_ok iD iD (fun w => (partN s w).all fun u => decide (u ∈ ev)) (by simpa using hz) (fun w hw Y N h1 h2 => ?_) h)
  have hw := List.mem_range.mp hw
  refine w_possible hr hw hz ?_
  refine lcM_ok iD (fun u => .bool (decide (u ∈ ev))) (Nat.le_trans (partN_lot s w).len hz) (fun u hu Y hY => he.seq (inN_ok hY)) (all_ok ?_)
  exact ite_ok h1 h2
/-- the rows handed in, told -/
def toldD (ss : List (List Int)) : PyData := .list (ss.map tupR)
theorem told_at {k : Nat} (h : ss[k]? = some s) : (ss.map tupR)[k]? = some (tupR s) := by rw [List.getElem?_map, h]; rfl
theorem GoodS.at0 (g : GoodS n ss) : ∃ s, ss[0]? = some s ∧ s.length = n := by
  have h : 0 < ss.length := g.p1
  exact ⟨ss[0], List.getElem?_eq_getElem h, (g.row _ (List.getElem_mem h)).1⟩
theorem GoodS.at (g : GoodS n ss) {k : Nat} (h : k < ss.length) : ∃ s, ss[k]? = some s ∧ s.length = n ∧ s ∈ ss := ⟨ss[k], List.getElem?_eq_getElem h, (g.row _ (List.getElem_mem h)).1, List.getElem_mem h⟩
theorem w_known_by_all (g : GoodS n ss) (he : LotD ev e) (h : rt (lotN (allKnowN n ss ev))) : W_known_by_all (toldD ss) e rt er := by
  unfold W_known_by_all
  obtain ⟨s0, h0, hl0⟩ := g.at0
  have hn := g.n10
  show lcMW (ss.map tupR) _ _
  refine lcM_ok tupR (fun s => lotN (knownN s ev)) (by have := g.p4; omega) (fun s hs Y hY => w_known_at (.inr rfl) he (by rw [(g.row s hs).1]; omega) hY) ?_
  refine ix_ok (told_at h0) ?_
  show rngW (.int ((s0.map PyData.int).length : Nat)) _
  rw [List.length_map, hl0]
  refine rng_ok (by omega) (lc_ok iD iD (fun w => ss.all fun s => decide (w ∈ knownN s ev)) (by simp; omega) (fun w hw Y N h1 h2 => ?_) h)
  refine lcM_ok (fun s => lotN (knownN s ev)) (fun s => .bool (decide (w ∈ knownN s ev))) (by have := g.p4; omega) (fun s hs Y hY => inN_ok hY) (all_ok ?_)
  exact ite_ok h1 h2
theorem w_check_event (g : GoodS n ss) (h1 : lotB e n = true → rt .none) (h2 : lotB e n = false → er "BadWorlds" none) : W_check_event (toldD ss) e rt er := by
  unfold W_check_event
  obtain ⟨s0, h0, hl0⟩ := g.at0
  refine ix_ok (told_at h0) ?_
  show W_is_lot e (.int ((s0.map PyData.int).length : Nat)) _ _
  rw [List.length_map, hl0]
  refine w_is_lot ?_
  show iteW (!lotB e n) _ _
  cases e1 : lotB e n with
  | true => exact h1 e1
  | false => exact h2 e1
/-! rows as they are handed in -/
abbrev HRow := List Int × Bool
def encR (r : HRow) : PyData := if r.2 then tupR r.1 else lstR r.1
structure Handed (ss : List (List Int)) (d : PyData) : Prop where
  ex : ∃ rs : List HRow, rs.map (·.1) = ss ∧ (d = .list (rs.map encR) ∨ d = .tuple (rs.map encR))
theorem encR_row (r : HRow) : RowD r.1 (encR r) := by unfold encR; cases r.2; exact .inl rfl; exact .inr rfl
theorem lsq_encR (r : HRow) : lsq (encR r) = r.1.map .int := by unfold encR; cases r.2 <;> rfl
theorem Handed.seq {k : List PyData → Prop} (h : Handed ss d) (hk : ∀ rs : List HRow, rs.map (·.1) = ss → k (rs.map encR)) : seqW d k := by
  obtain ⟨rs, e, h | h⟩ := h.ex
  · rw [h]; exact hk rs e
  · rw [h]; exact hk rs e
theorem Handed.lsq (h : Handed ss d) : ∃ rs : List HRow, rs.map (·.1) = ss ∧ lsq d = rs.map encR ∧ isSq d = true := by
  obtain ⟨rs, e, h | h⟩ := h.ex
  · exact ⟨rs, e, by rw [h]; rfl, by rw [h]; rfl⟩
  · exact ⟨rs, e, by rw [h]; rfl, by rw [h]; rfl⟩
theorem listed_row (s : List Int) : (s.map PyData.int).all isIntD = true := by rw [List.all_map]; exact List.all_eq_true.mpr fun _ _ => rfl
theorem rowB_encR {r : HRow} (h1 : 1 ≤ r.1.length) (h2 : r.1.length ≤ 10) (h3 : r.1.length = n) (h4 : ∀ x ∈ r.1, 0 ≤ x) : rowB n (encR r) = true := by
  unfold rowB listedB
  rw [lsq_encR, listed_row, List.length_map, h3, decide_eq_true (by omega), decide_eq_true (by omega), decide_eq_true rfl]
  have : isSq (encR r) = true := by unfold encR; cases r.2 <;> rfl
  rw [this, List.all_map]
  exact List.all_eq_true.mpr fun x hx => decide_eq_true (h4 x hx)
theorem okSB_handed (g : GoodS n ss) (h : Handed ss d) : okSB d = true := by
  obtain ⟨rs, e, hl, hq⟩ := h.lsq
  have hlen : rs.length = ss.length := by rw [← e, List.length_map]
  have hg : (rs.map encR).getD 0 .none = encR (rs.getD 0 ([], false)) := by
    have : 0 < rs.length := by have := g.p1; omega
    rw [List.getD_eq_getElem?_getD, List.getD_eq_getElem?_getD, List.getElem?_map, List.getElem?_eq_getElem this]; rfl
  have h0 : (rs.getD 0 ([], false)).1.length = n := by
    have : 0 < rs.length := by have := g.p1; omega
    rw [List.getD_eq_getElem?_getD, List.getElem?_eq_getElem this]
    exact (g.row _ (by rw [← e]; exact List.mem_map.mpr ⟨_, List.getElem_mem this, rfl⟩)).1
  unfold okSB
  have p1 := g.p1
  have p4 := g.p4
  rw [hq, hl, List.length_map, hlen, decide_eq_true (by omega), decide_eq_true (by omega), hg, lsq_encR, List.length_map, h0, List.all_map]
  have n1 := g.n1
  have n10 := g.n10
  exact List.all_eq_true.mpr fun r hr => by
    obtain ⟨g1, g2⟩ := g.row r.1 (by rw [← e]; exact List.mem_map.mpr ⟨r, hr, rfl⟩)
    exact rowB_encR (by omega) (by omega) g1 g2
theorem w_check_handed (g : GoodS n ss) (h : Handed ss d) (hk : rn (ss.map tupR)) : W_check_sights d rn er := by
  obtain ⟨rs, e, hl, hq⟩ := h.lsq
  have n10 := g.n10
  refine w_check_sights (fun r hr => ?_) (fun _ => ?_) fun e1 => ?_
  · rw [hl] at hr
    obtain ⟨r0, hr0, rfl⟩ := List.mem_map.mp hr
    rw [lsq_encR, List.length_map, (g.row r0.1 (by rw [← e]; exact List.mem_map.mpr ⟨r0, hr0, rfl⟩)).1]; omega
  · rw [hl, List.map_map, show (rs.map ((fun r => PyData.tuple (lsq r)) ∘ encR)) = (rs.map (·.1)).map tupR by rw [List.map_map]; exact List.map_congr_left fun r _ => by show PyData.tuple (lsq (encR r)) = _; rw [lsq_encR]; rfl, e]
    exact hk
  · rw [okSB_handed g h] at e1; cases e1
/-! the law's own -/
theorem w_whole {i : Int} (h : rt (.bool true)) : W__law_whole (.int i) rt er := by unfold W__law_whole; exact h
/-- a lot is due -/
theorem w_is_due (he : LotD ev e) (hz : ev.length ≤ 100000) (h : rt (.bool true)) : W__law_is_lot (lotN ev) e rt er := by
  unfold W__law_is_lot
  refine or_ok false (fun k h => h) (fun _ => ?_) (fun z => nomatch z)
  show seqW e _
  refine he.seq ?_
  show neW (.int ((ev.map iD).length : Nat)) (.int ((ev.map iD).length : Nat)) _
  refine neI_ok ?_
  rw [decide_eq_true rfl]
  refine he.seq ?_
  show rngW (.int ((ev.map iD).length : Nat)) _
  rw [List.length_map]
  refine rng_ok hz (for_const iD (fun k hk nx bk h1 h2 => ?_) h)
  have hk := List.mem_range.mp hk
  obtain ⟨m, hm⟩ : ∃ m, ev[k]? = some m := ⟨_, List.getElem?_eq_getElem hk⟩
  have hm' : (ev.map iD)[k]? = some (iD m) := by rw [List.getElem?_map, hm]; rfl
  refine or_ok false (fun k2 h => ix_ok hm' (w_whole h)) (fun _ => ?_) (fun z => nomatch z)
  refine ix_ok hm' (he.seq (ix_ok hm' (neI_ok ?_)))
  rw [decide_eq_true rfl]
  exact h1
theorem w_part (hr : RowD s d) (hw : w < s.length) (hz : s.length ≤ 100000) (h : rn ((partN s w).map iD)) : W__law_part d (iD w) rn er := by
  unfold W__law_part
  refine hr.seq ?_
  show rngW (.int ((s.map PyData.int).length : Nat)) _
  rw [List.length_map]
  refine rng_ok hz (lc_ok iD iD (fun u => decide (s.getD u 0 = s.getD w 0)) (by simpa using hz) (fun u hu Y N h1 h2 => ?_) h)
  have hu := List.mem_range.mp hu
  refine hr.seq (ix_ok (row_at hu) (hr.seq (ix_ok (row_at hw) (eqI_ok ?_))))
  exact ite_ok h1 h2
/-- draws -/
theorem w_draw {m : Nat} (h0 : 0 < m) (h1 : m < 1073741824) (h : ∀ r : Nat, r < m → rt (iD r)) : W__law_draw (.int (m : Nat)) rt er := by unfold W__law_draw; exact draw_ok h0 h1 h
theorem w_order {m : Nat} (hm : m ≤ 1000) (h : ∀ ps : List Nat, ps.Perm (List.range m) → rn (ps.map iD)) : W__law_order (iD m) rn er := by
  unfold W__law_order
  refine rgL_ok (by omega) ⟨by simp, rng_ok (by omega) (for_ok iD (fun i s => ∃ ps ls : List Nat, s = (ps.map iD, ls.map iD) ∧ (ps ++ ls).Perm (List.range m) ∧ ps.length = i) ⟨[], List.range m, rfl, List.Perm.refl _, rfl⟩ ?_ ?_)⟩
  · rintro i x s hx ⟨ps, ls, rfl, hp, hl⟩ nx bk h1 h2
    have hi : i < m := by simpa using (List.getElem?_eq_some_iff.mp hx).1
    have hlen := hp.length_eq
    rw [List.length_append, List.length_range] at hlen
    show W__law_draw (.int ((ls.map iD).length : Nat)) _ _
    rw [List.length_map]
    refine w_draw (by omega) (by omega) fun r hr => ?_
    refine ⟨by rw [List.length_map]; omega, by omega, by rw [List.length_map]; omega, fun d hd => ⟨by rw [List.length_map]; omega, h1 _ ?_⟩⟩
    rw [Int.toNat_natCast, List.getElem?_map] at hd
    cases hq : ls[r]? with
    | none => rw [hq] at hd; cases hd
    | some q =>
      rw [hq] at hd
      cases hd
      refine ⟨ps ++ [q], ls.eraseIdx r, ?_, ?_, by rw [List.length_append, hl]; rfl⟩
      · rw [Int.toNat_natCast, List.map_append, List.eraseIdx_eq_take_drop_succ, List.eraseIdx_eq_take_drop_succ, List.map_append, List.map_take, List.map_drop]; rfl
      · refine List.Perm.trans ?_ hp
        rw [List.append_assoc]
        refine List.Perm.append_left _ ?_
        obtain ⟨hlt, e⟩ := List.getElem?_eq_some_iff.mp hq
        have : ls = ls.take r ++ q :: ls.drop (r + 1) := by rw [← e, List.getElem_cons_drop, List.take_append_drop]
        rw [List.eraseIdx_eq_take_drop_succ]
        conv => rhs; rw [this]
        show (q :: (ls.take r ++ ls.drop (r + 1))).Perm _
        exact List.perm_middle.symm
  · rintro s ⟨ps, ls, rfl, hp, hl⟩
    rw [List.length_range] at hl
    have hlen := hp.length_eq
    rw [List.length_append, List.length_range] at hlen
    have : ls = [] := List.length_eq_zero_iff.mp (by omega)
    subst this
    rw [List.append_nil] at hp
    exact h ps hp
/-- a row of small numbers gets other ones -/
theorem w_named (hz : s.length ≤ 1000) (hb : ∀ x ∈ s, 0 ≤ x ∧ x ≤ 40) (h : ∀ s' : List Int, s'.length = s.length → (∀ x ∈ s', 0 ≤ x) → rn (s'.map .int)) : W__law_named (lstR s) rn er := by
  unfold W__law_named
  refine w_draw (m := 3) (by decide) (by decide) fun r hr => ?_
  show W__law_draw (.int 2) _ _
  refine w_draw (m := 2) (by decide) (by decide) fun q hq => ?_
  refine eqI_ok (ite_ok (fun _ => ?_) fun _ => ?_)
  · refine lcM_ok PyData.int (fun n => .int (200 - (1 + (r : Int)) * n)) (by omega) (fun x hx Y hY => ⟨.inl ⟨by omega, by omega⟩, hY⟩) ?_
    have e : (s.map fun n => PyData.int (200 - (1 + (r : Int)) * n)) = (s.map fun n => 200 - (1 + (r : Int)) * n).map .int := by rw [List.map_map]; rfl
    rw [e]
    refine h _ (List.length_map ..) fun x hx => ?_
    obtain ⟨y, hy, rfl⟩ := List.mem_map.mp hx
    have := hb y hy
    have h3 : (1 + (r : Int)) * y ≤ 3 * 40 := Int.mul_le_mul (by omega) this.2 this.1 (by decide)
    omega
  · refine ⟨⟨by decide, by decide, by decide⟩, ?_⟩
    refine ⟨by simp, w_draw (m := 3) (by decide) (by decide) fun b hb3 => ?_⟩
    have key : ∀ base : Int, 0 ≤ base → lcMW (s.map .int) (fun n2 Y2 => mulW (.int (1 + (r : Int))) n2 fun t10 => addW (.int base) t10 fun t11 => Y2 t11) fun l5 => rn l5 := fun base hb0 => by
      refine lcM_ok PyData.int (fun n => .int (base + (1 + (r : Int)) * n)) (by omega) (fun x hx Y hY => ⟨.inl ⟨by omega, by omega⟩, hY⟩) ?_
      have e : (s.map fun n => PyData.int (base + (1 + (r : Int)) * n)) = (s.map fun n => base + (1 + (r : Int)) * n).map .int := by rw [List.map_map]; rfl
      rw [e]
      refine h _ (List.length_map ..) fun x hx => ?_
      obtain ⟨y, hy, rfl⟩ := List.mem_map.mp hx
      have := hb y hy
      have h3 : 0 ≤ (1 + (r : Int)) * y := Int.mul_nonneg (by omega) this.1
      omega
    match b, hb3 with
    | 0, _ => exact ix_ok (n := 0) rfl (key _ (by decide))
    | 1, _ => exact ix_ok (n := 1) rfl (key _ (by decide))
    | 2, _ => exact ix_ok (n := 2) rfl (key _ (by decide))
    | b + 3, h => exact absurd h (by omega)
theorem w_blocks {m : Nat} {ps : List Nat} (hm : m ≤ 30) (hp : ps.Perm (List.range m)) (h : ∀ s : List Int, s.length = m → (∀ x ∈ s, 0 ≤ x ∧ x ≤ 40) → rn (s.map .int)) : W__law_blocks (.list (ps.map iD)) rn er := by
  unfold W__law_blocks
  have hl : ps.length = m := by rw [hp.length_eq, List.length_range]
  refine w_draw (m := 2) (by decide) (by decide) fun r hr => ?_
  show W__law_draw (.int (2 + (r : Int))) _ _
  rw [show (2 + (r : Int)) = ((2 + r : Nat) : Int) by omega]
  refine w_draw (by omega) (by omega) fun sh hsh => ?_
  refine lcM_ok iD (fun _ => .int 0) (by omega) (fun x hx Y hY => hY) ?_
  show rngW (.int ((ps.map iD).length : Nat)) _
  rw [List.length_map, hl]
  refine rng_ok (by omega) (for_ok iD (fun i st => ∃ s : List Int, st = s.map .int ∧ s.length = m ∧ ∀ x ∈ s, 0 ≤ x ∧ x ≤ 40) ⟨List.replicate m 0, by rw [List.map_replicate, ← hl]; exact List.map_const' .., List.length_replicate, fun x hx => by rw [(List.mem_replicate.mp hx).2]; omega⟩ ?_ ?_)
  · rintro i x st hx ⟨s, rfl, hs, hb⟩ nx bk h1 h2
    have hi : i < m := by simpa using (List.getElem?_eq_some_iff.mp hx).1
    rw [List.getElem?_range hi] at hx
    cases hx
    have hq : 0 < ((2 + r : Nat) : Int) := by omega
    refine ⟨⟨hq, by omega⟩, ?_⟩
    obtain ⟨q, hq2⟩ : ∃ q, ps[i]? = some q := ⟨_, List.getElem?_eq_getElem (by omega)⟩
    have hqm : q < m := List.mem_range.mp (hp.mem_iff.mp (List.mem_of_getElem? hq2))
    refine ix_ok (n := i) (by rw [List.getElem?_map, hq2]; rfl) (set_ok (by rw [List.length_map]; omega) (h1 _ ⟨s.set q (((i : Int) + (sh : Int)) / ((2 + r : Nat) : Int)), by rw [List.map_set], by rw [List.length_set]; exact hs, fun x hx => ?_⟩))
    rcases List.mem_or_eq_of_mem_set hx with h | rfl
    · exact hb x h
    · have h1 : 0 ≤ ((i : Int) + (sh : Int)) / ((2 + r : Nat) : Int) := Int.ediv_nonneg (by omega) (by omega)
      have h2 : ((i : Int) + (sh : Int)) / ((2 + r : Nat) : Int) ≤ (i : Int) + (sh : Int) := Int.ediv_le_self _ (by omega)
      omega
  · rintro st ⟨s, rfl, hs, hb⟩
    exact h s hs hb
theorem w_sights {m p : Nat} (h1 : 1 ≤ m) (hm : m ≤ 10) (hp : p ≤ 4) (h : ∀ ss : List (List Int), ss.length = p → (∀ s ∈ ss, s.length = m ∧ ∀ x ∈ s, 0 ≤ x) → rn (ss.map lstR)) : W__law_sights (iD m) (iD p) rn er := by
  unfold W__law_sights
  refine w_draw (m := 3) (by decide) (by decide) fun way hway => ?_
  refine w_order (by omega) fun ps hps => ?_
  have hpl : ps.length = m := by rw [hps.length_eq, List.length_range]
  refine rng_ok (by omega) (lcM_any iD iD (fun _ (r : Nat) => r < 3) (by simp; omega) (fun x hx Y hY => w_draw (m := 3) (by decide) (by decide) fun r hr => hY r hr) fun isl hisl hq3 => ⟨by simp, ?_⟩)
  rw [List.length_range] at hisl
  have hiv : ∀ u < m, ∃ q : Nat, (isl.map iD)[u]? = some (iD q) ∧ q < 3 := fun u hu => by
    obtain ⟨q, hq⟩ : ∃ q, isl[u]? = some q := ⟨_, List.getElem?_eq_getElem (by omega)⟩
    exact ⟨q, by rw [List.getElem?_map, hq]; rfl, hq3 u u q (by rw [List.getElem?_range hu]) hq⟩
  refine rng_ok (by omega) (for_ok iD (fun i st => ∃ ss : List (List Int), st = ss.map lstR ∧ ss.length = i ∧ ∀ s ∈ ss, s.length = m ∧ ∀ x ∈ s, 0 ≤ x) ⟨[], rfl, rfl, fun s hs => absurd hs List.not_mem_nil⟩ ?_ ?_)
  · rintro i x st hx ⟨ss, rfl, hsl, hss⟩ nx bk hn hb
    have hi : i < p := by simpa using (List.getElem?_eq_some_iff.mp hx).1
    refine ⟨by simp, ?_⟩
    obtain ⟨many, hmany, hm1, hm2⟩ : ∃ many : Nat, ([PyData.int ((m : Nat) + 1), .int 1, .int 3] : List PyData)[way]? = some (iD many) ∧ 1 ≤ many ∧ many ≤ 11 := by
      match way, hway with
      | 0, _ => exact ⟨m + 1, rfl, by omega, by omega⟩
      | 1, _ => exact ⟨1, rfl, by omega, by omega⟩
      | 2, _ => exact ⟨3, rfl, by omega, by omega⟩
      | w + 3, h => exact absurd h (by omega)
    refine ix_ok hmany (w_draw (by omega) (by omega) fun r hr => ?_)
    show rngW (iD m) _
    refine rng_ok (by omega) (lcM_any iD iD (fun _ (q : Nat) => q < 1 + r) (by simp; omega) (fun x hx Y hY => ?_) fun sg hsg hsq => ?_)
    · show W__law_draw (.int (1 + (r : Int))) _ _
      rw [show (1 + (r : Int)) = ((1 + r : Nat) : Int) by omega]
      exact w_draw (by omega) (by omega) fun q hq => hY q hq
    rw [List.length_range] at hsg
    have hsv : ∀ u < m, ∃ q : Nat, (sg.map iD)[u]? = some (iD q) ∧ q < 1 + r := fun u hu => by
      obtain ⟨q, hq⟩ : ∃ q, sg[u]? = some q := ⟨_, List.getElem?_eq_getElem (by omega)⟩
      exact ⟨q, by rw [List.getElem?_map, hq]; rfl, hsq u u q (by rw [List.getElem?_range hu]) hq⟩
    -- the last step
    have fin : ∀ s : List Int, s.length = m → (∀ x ∈ s, 0 ≤ x ∧ x ≤ 40) → W__law_named (lstR s) (fun l10 => fzW l10 fun t19 => appW (ss.map lstR) t19 fun sights2 => nx sights2) er := fun s hs hb => by
      refine w_named (by omega) hb fun s' hs' hp' => ⟨by rw [List.length_map]; omega, hn _ ⟨ss ++ [s'], by rw [List.map_append]; rfl, by rw [List.length_append, hsl]; rfl, fun t ht => ?_⟩⟩
      rcases List.mem_append.mp ht with ht | ht
      · exact hss t ht
      · rw [List.mem_singleton.mp ht]; exact ⟨hs'.trans hs, hp'⟩
    have fin0 : W__law_named (.list (sg.map iD)) (fun l10 => fzW l10 fun t19 => appW (ss.map lstR) t19 fun sights2 => nx sights2) er := by
      have e : PyData.list (sg.map iD) = lstR (sg.map fun q : Nat => (q : Int)) := by show _ = PyData.list _; rw [List.map_map]; rfl
      rw [e]
      refine fin _ (by rw [List.length_map]; exact hsg) fun x hx => ?_
      obtain ⟨q, hq, rfl⟩ := List.mem_map.mp hx
      obtain ⟨u, hu⟩ := List.getElem?_of_mem hq
      have hu2 : u < m := by have := (List.getElem?_eq_some_iff.mp hu).1; omega
      have := hsq u u q (by rw [List.getElem?_range hu2]) hu
      omega
    have isl10 : ∀ k : PyData → Prop, (∀ s : List Int, s.length = m → (∀ x ∈ s, 0 ≤ x ∧ x ≤ 40) → k (lstR s)) → rngW (iD m) fun it4 => lcMW it4 (fun w_2 Y3 => seqW (.list (isl.map iD)) fun l7 => ixW l7 w_2 fun t14 => mulW (.int 10) t14 fun t15 => seqW (.list (sg.map iD)) fun l8 => ixW l8 w_2 fun t16 => addW t15 t16 fun t17 => Y3 t17) fun l9 => fzW l9 k := fun k hk => by
      refine rng_ok (by omega) (lcM_any iD PyData.int (fun _ (x : Int) => 0 ≤ x ∧ x ≤ 40) (by simp; omega) (fun u hu Y hY => ?_) fun rs hrs hq => hk rs (by rw [hrs, List.length_range]) fun x hx => ?_)
      · have hu := List.mem_range.mp hu
        obtain ⟨q, h1, h2⟩ := hiv u hu
        obtain ⟨q', h3, h4⟩ := hsv u hu
        exact ix_ok h1 ⟨.inl ⟨by decide, by decide⟩, ix_ok h3 (hY _ (by omega))⟩
      · obtain ⟨u, hu⟩ := List.getElem?_of_mem hx
        have hu2 : u < m := by have := (List.getElem?_eq_some_iff.mp hu).1; rw [hrs, List.length_range] at this; exact this
        exact hq u u x (by rw [List.getElem?_range hu2]) hu
    show eqW (iD way) (.int 1) _
    refine eqI_ok (ite_ok (fun e1 => ?_) fun e1 => ?_)
    · have hw : way = 1 := by have := of_decide_eq_true e1; omega
      refine w_blocks (m := m) (by omega) hps fun s hs hb => ?_
      show eqW (iD way) (.int 2) _
      refine eqI_ok (iteF (decide_eq_false (by omega)) (fin s hs hb))
    · show eqW (iD way) (.int 2) _
      refine eqI_ok (ite_ok (fun _ => isl10 _ fun s hs hb => fin s hs hb) fun _ => fin0)
  · rintro st ⟨ss, rfl, hsl, hss⟩
    rw [List.length_range] at hsl
    exact h ss hsl hss
theorem w_handed (hz : ss.length ≤ 1000) (h : ∀ d, Handed ss d → rt d) : W__law_handed (.list (ss.map lstR)) rt er := by
  unfold W__law_handed
  refine ⟨by simp, for_ok lstR (fun i st => ∃ rs : List HRow, st = rs.map encR ∧ rs.map (·.1) = ss.take i) ⟨[], rfl, rfl⟩ ?_ ?_⟩
  · rintro i x st hx ⟨rs, rfl, hrs⟩ nx bk h1 h2
    have hi := (List.getElem?_eq_some_iff.mp hx).1
    have hl : rs.length < 100000 := by
      have := congrArg List.length hrs
      rw [List.length_map, List.length_take] at this; omega
    have step : ∀ b : Bool, ∃ rs' : List HRow, rs.map encR ++ [encR (x, b)] = rs'.map encR ∧ rs'.map (·.1) = ss.take (i + 1) := fun b => ⟨rs ++ [(x, b)], by rw [List.map_append]; rfl, by rw [List.map_append, hrs, List.take_add_one, hx]; rfl⟩
    refine w_draw (m := 2) (by decide) (by decide) fun r hr => eqI_ok (ite_ok (fun _ => ?_) fun _ => ?_)
    · exact ⟨by rw [List.length_map]; exact hl, h1 _ (step true)⟩
    · exact ⟨by rw [List.length_map]; exact hl, h1 _ (step false)⟩
  · rintro st ⟨rs, rfl, hrs⟩
    rw [List.take_length] at hrs
    refine w_draw (m := 2) (by decide) (by decide) fun r hr => eqI_ok (ite_ok (fun _ => ?_) fun _ => ?_)
    · exact h _ ⟨rs, hrs, .inr rfl⟩
    · exact h _ ⟨rs, hrs, .inl rfl⟩
theorem w_plain (hz : ss.length ≤ 1000) (hd : Handed ss d) (h : rn (ss.map lstR)) : W__law_plain d rn er := by
  unfold W__law_plain
  refine hd.seq fun rs hrs => lcM_ok encR (fun r => lstR r.1) (by have := congrArg List.length hrs; rw [List.length_map] at this; omega) (fun r hr Y hY => (encR_row r).seq hY) ?_
  have : rs.map (fun r => lstR r.1) = ss.map lstR := by rw [← hrs, List.map_map]; rfl
  rw [this]; exact h
theorem w_event {m : Nat} (hm : m ≤ 10) (h : ∀ ev, Lot m ev → rt (lotN ev)) : W__law_event (iD m) rt er := by
  unfold W__law_event
  refine w_draw (m := 6) (by decide) (by decide) fun way hway => eqI_ok (ite_ok (fun _ => ⟨by simp, h [] ⟨fun x hx => absurd hx List.not_mem_nil, .nil⟩⟩) fun _ => eqI_ok (ite_ok (fun _ => ?_) fun _ => ?_))
  · exact rgL_ok (by omega) (h _ ⟨fun x hx => List.mem_range.mp hx, pw_range m⟩)
  · refine rng_ok (by omega) (lc_any iD iD (fun _ _ => True) (by simp; omega) List.nodup_range (fun x hx Y N h1 h2 => ?_) fun p hp => h _ (lot_filter m p))
    exact w_draw (m := 2) (by decide) (by decide) fun r hr => eqI_ok (ite_ok (fun _ => h1 trivial) fun _ => h2 trivial)
end
end Eh

namespace Eh
open PySem PySem.Spec PyProof.Rows L2
/-! ### spoilt sights, spoilt events -/
def firstL (d : PyData) : Nat := (lsq ((lsq d).getD 0 .none)).length
structure BadSt (d : PyData) : Prop where
  no : okSB d = false
  sz : ∀ r ∈ lsq d, (lsq r).length ≤ 100000
section
variable {rt : PyData → Prop} {rn : List PyData → Prop} {er : XP} {d e : PyData} {n w : Nat} {s : List Int} {ss : List (List Int)} {ev : List Nat}
theorem w_check_bad (h : BadSt d) (he : er "BadWorlds" none) : W_check_sights d rn er := w_check_sights h.sz (fun e => by rw [h.no] at e; cases e) fun _ => he
theorem okSB_row {r : PyData} (h : r ∈ lsq d) (hb : rowB (firstL d) r = false) : okSB d = false := by
  unfold okSB
  have : (lsq d).all (rowB ((lsq ((lsq d).getD 0 .none)).length : Nat)) = false := List.all_eq_false.mpr ⟨r, h, by rw [show ((lsq ((lsq d).getD 0 .none)).length : Int) = firstL d from rfl, hb]; exact Bool.false_ne_true⟩
  rw [this, Bool.and_false]
theorem okSB_many (h : (lsq d).length = 0 ∨ 4 < (lsq d).length) : okSB d = false := by
  unfold okSB
  have : (decide (1 ≤ ((lsq d).length : Int)) && decide (((lsq d).length : Int) ≤ 4)) = false := by
    rcases h with h | h
    · rw [decide_eq_false (p := 1 ≤ ((lsq d).length : Int)) (by omega)]; rfl
    · rw [decide_eq_false (p := ((lsq d).length : Int) ≤ 4) (by omega), Bool.and_false]
  rw [this, Bool.and_false, Bool.false_and]
theorem rowB_unlisted {m : Int} {r : PyData} (h : listedB r = false) : rowB m r = false := by unfold rowB; rw [h]; rfl
theorem rowB_len {m : Int} {r : PyData} (h : ((lsq r).length : Int) < 1 ∨ 10 < ((lsq r).length : Int) ∨ ((lsq r).length : Int) ≠ m) : rowB m r = false := by
  unfold rowB
  rcases h with h | h | h
  · rw [decide_eq_false (p := 1 ≤ ((lsq r).length : Int)) (by omega), Bool.false_and, Bool.and_false]; rfl
  · rw [decide_eq_false (p := ((lsq r).length : Int) ≤ 10) (by omega), Bool.and_false, Bool.and_false]; rfl
  · rw [decide_eq_false h, Bool.and_false]; rfl
theorem rowB_neg {m : Int} {r : PyData} {i : Int} (h : PyData.int i ∈ lsq r) (hi : i < 0) : rowB m r = false := by
  unfold rowB
  have : (lsq r).all nnB = false := List.all_eq_false.mpr ⟨_, h, by show ¬ decide (0 ≤ i) = true; rw [decide_eq_false (by omega)]; exact Bool.false_ne_true⟩
  rw [this, Bool.and_false]
theorem unlisted_of {r x : PyData} (h : x ∈ lsq r) (hx : isIntD x = false) : listedB r = false := by
  unfold listedB
  have : (lsq r).all isIntD = false := List.all_eq_false.mpr ⟨x, h, by rw [hx]; exact Bool.false_ne_true⟩
  rw [this, Bool.and_false]
theorem cut3 {α : Type} (xs : List α) : cutD xs none (some (3 : Int)) = xs.take 3 := by
  unfold cutD
  rw [show (3 : Int) = ((3 : Nat) : Int) from rfl, HT.sIx_none, HT.sIx_nat, List.drop_zero, Nat.sub_zero]
  by_cases h : 3 ≤ xs.length
  · rw [Nat.min_eq_left h]
  · rw [Nat.min_eq_right (by omega), List.take_length, List.take_of_length_le (by omega)]
theorem w_bad_sights (g : GoodS n ss) (h : ∀ d, BadSt d → rt d) : W__law_bad_sights (.list (ss.map lstR)) rt er := by
  unfold W__law_bad_sights
  obtain ⟨s0, h0, hl0⟩ := g.at0
  have p1 := g.p1
  have p4 := g.p4
  have n1 := g.n1
  have n10 := g.n10
  have h0' : (ss.map lstR)[0]? = some (lstR s0) := by rw [List.getElem?_map, h0]; rfl
  have hm0 : s0 ∈ ss := List.mem_of_getElem? h0
  have szr : ∀ r ∈ ss.map lstR, (lsq r).length ≤ 100000 := fun r hr => by
    obtain ⟨s, hs, rfl⟩ := List.mem_map.mp hr
    show (s.map PyData.int).length ≤ _
    rw [List.length_map, (g.row s hs).1]; omega
  refine w_draw (m := 11) (by decide) (by decide) fun way hway => ?_
  refine lcM_ok lstR lstR (by omega) (fun s hs Y hY => hY) ?_
  show ixW (ss.map lstR) (.int 0) _
  refine ix_ok (n := 0) h0' ?_
  show eqW (iD way) (.int 0) _
  have hlen : ∀ k : PyData → Prop, k (iD n) → k (.int ((s0.map PyData.int).length : Nat)) := fun k hk => by rw [List.length_map, hl0]; exact hk
  refine eqI_ok (ite_ok (fun _ => ⟨by simp, h _ ⟨okSB_many (.inl rfl), fun r hr => absurd hr List.not_mem_nil⟩⟩) fun e0 => ?_)
  refine eqI_ok (ite_ok (fun _ => ?_) fun e1 => ?_)
  · refine rng_ok (n := 5) (by decide) (lcM_ok iD (fun _ => lstR s0) (by simp) (fun x hx Y hY => ix_ok (n := 0) h0' hY) ?_)
    refine h _ ⟨okSB_many (.inr ?_), fun r hr => ?_⟩
    · show 4 < ((List.range 5).map fun _ => lstR s0).length
      simp
    · obtain ⟨x, _, rfl⟩ := List.mem_map.mp hr
      exact szr _ (List.mem_map.mpr ⟨s0, hm0, rfl⟩)
  refine eqI_ok (ite_ok (fun _ => ?_) fun e2 => ?_)
  · dsimp only [intW, slDW, lstW]
    rw [cut3]
    refine ix_ok (n := 0) h0' ⟨by simp, ?_⟩
    refine ⟨by simp; omega, by simp, ⟨by simp; omega, ?_⟩⟩
    refine h _ ⟨okSB_row (r := .list (s0.map .int ++ [.int 0])) (List.mem_append_right _ (List.mem_singleton.mpr rfl)) (rowB_len (.inr (.inr ?_))), fun r hr => ?_⟩
    · have e : firstL (.list ((ss.map lstR).take 3 ++ [.list (s0.map .int ++ [.int 0])])) = n := by
        unfold firstL
        show (lsq (((ss.map lstR).take 3 ++ _).getD 0 .none)).length = n
        rw [List.getD_eq_getElem?_getD, List.getElem?_append_left (by simp; omega), List.getElem?_take, if_pos (by decide), h0']
        show (s0.map PyData.int).length = n
        rw [List.length_map, hl0]
      rw [e]
      show ((s0.map PyData.int ++ [PyData.int 0]).length : Int) ≠ n
      rw [List.length_append, List.length_map, hl0]; simp; omega
    · rcases List.mem_append.mp hr with hr | hr
      · exact szr r (List.mem_of_mem_take hr)
      · rw [List.mem_singleton.mp hr]
        show (s0.map PyData.int ++ [PyData.int 0]).length ≤ _
        rw [List.length_append, List.length_map, hl0]; simp; omega
  refine eqI_ok (ite_ok (fun _ => ?_) fun e3 => ?_)
  · show lcMW (ss.map lstR) _ _
    refine lcM_ok lstR (fun s => .list (s.map .int ++ (List.range (11 - n)).map fun _ => .int 0)) (by omega) (fun s hs Y hY => ?_) ?_
    · refine hlen (fun t => subW (.int 11) t _) ?_
      show rngW (.int (11 - (n : Int))) _
      rw [show (11 - (n : Int)) = ((11 - n : Nat) : Int) by omega]
      refine rng_ok (by omega) (lcM_ok iD (fun _ => .int 0) (by simp; omega) (fun x hx Y hY => hY) ⟨?_, hY⟩)
      rw [List.length_map, List.length_map, (g.row s hs).1]; simp; omega
    · refine h _ ⟨okSB_row (r := .list (s0.map .int ++ (List.range (11 - n)).map fun _ => .int 0)) (List.mem_map.mpr ⟨s0, hm0, rfl⟩) (rowB_len (.inr (.inl ?_))), fun r hr => ?_⟩
      · show 10 < ((s0.map PyData.int ++ (List.range (11 - n)).map fun _ => PyData.int 0).length : Int)
        rw [List.length_append, List.length_map, List.length_map, List.length_range, hl0]; omega
      · obtain ⟨s, hs, rfl⟩ := List.mem_map.mp hr
        show (s.map PyData.int ++ (List.range (11 - n)).map fun _ => PyData.int 0).length ≤ _
        rw [List.length_append, List.length_map, List.length_map, List.length_range, (g.row s hs).1]; omega
  refine eqI_ok (ite_ok (fun _ => ?_) fun e4 => ?_)
  · show lcMW (ss.map lstR) _ _
    refine lcM_ok lstR (fun _ => .tuple []) (by omega) (fun s hs Y hY => ⟨by simp, hY⟩) ?_
    refine h _ ⟨okSB_row (r := .tuple []) (List.mem_map.mpr ⟨s0, hm0, rfl⟩) (rowB_len (.inl (by decide))), fun r hr => ?_⟩
    obtain ⟨s, hs, rfl⟩ := List.mem_map.mp hr
    exact Nat.zero_le _
  refine eqI_ok (ite_ok (fun _ => h _ ⟨rfl, fun r hr => absurd hr List.not_mem_nil⟩) fun e5 => ?_)
  refine eqI_ok (ite_ok (fun _ => ?_) fun e6 => ?_)
  · dsimp only [intW, slDW, lstW]
    rw [cut3]
    refine ⟨by simp, ⟨by simp; omega, ?_⟩⟩
    refine h _ ⟨okSB_row (r := .none) (List.mem_append_right _ (List.mem_singleton.mpr rfl)) (rowB_unlisted rfl), fun r hr => ?_⟩
    rcases List.mem_append.mp hr with hr | hr
    · exact szr r (List.mem_of_mem_take hr)
    · rw [List.mem_singleton.mp hr]; exact Nat.zero_le _
  -- one number of one row
  have hw7 : 7 ≤ way := by
    have f0 := of_decide_eq_false e0
    have f1 := of_decide_eq_false e1
    have f2 := of_decide_eq_false e2
    have f3 := of_decide_eq_false e3
    have f4 := of_decide_eq_false e4
    have f5 := of_decide_eq_false e5
    have f6 := of_decide_eq_false e6
    omega
  show W__law_draw (.int ((ss.map lstR).length : Nat)) _ _
  rw [List.length_map]
  refine w_draw (by omega) (by omega) fun j hj => ?_
  obtain ⟨sj, hsj, hlj, hmj⟩ := g.at hj
  refine ⟨j, sj.map .int, ixN_nat (by rw [List.length_map]; exact hj), by rw [List.getElem?_map, hsj]; rfl, by simp, ?_⟩
  have hv : ∃ v : PyData, ([PyData.int (-1), .bool true, .none, .str (PySem.Str.ofString "0")] : List PyData)[way - 7]? = some v ∧ (v = .int (-1) ∨ isIntD v = false) := by
    obtain ⟨m, rfl⟩ : ∃ m, way = m + 7 := ⟨way - 7, by omega⟩
    rw [Nat.add_sub_cancel]
    match m, hway with
    | 0, _ => exact ⟨_, rfl, .inl rfl⟩
    | 1, _ => exact ⟨_, rfl, .inr rfl⟩
    | 2, _ => exact ⟨_, rfl, .inr rfl⟩
    | 3, _ => exact ⟨_, rfl, .inr rfl⟩
    | m + 4, h => exact absurd h (by omega)
  obtain ⟨v, hv1, hv2⟩ := hv
  show ixW _ (.int ((way : Int) - 7)) _
  rw [show ((way : Int) - 7) = ((way - 7 : Nat) : Int) by omega]
  refine ix_ok hv1 (hlen (fun t => W__law_draw t _ _) (w_draw (by omega) (by omega) fun u hu => ?_))
  refine set_ok (by rw [List.length_map, hlj]; exact hu) ?_
  have hmem : v ∈ (sj.map PyData.int).set u v := List.mem_of_getElem? (i := u) (by rw [List.getElem?_set_self (by rw [List.length_map, hlj]; exact hu)])
  refine h _ ⟨okSB_row (r := .list ((sj.map PyData.int).set u v)) (List.mem_of_getElem? (i := j) (by
    show ((ss.map lstR).set j _)[j]? = _
    rw [List.getElem?_set_self (by rw [List.length_map]; exact hj)])) ?_, fun r hr => ?_⟩
  · rcases hv2 with rfl | hv2
    · exact rowB_neg (i := -1) hmem (by decide)
    · exact rowB_unlisted (unlisted_of (x := v) hmem hv2)
  · rcases List.mem_or_eq_of_mem_set hr with hr | rfl
    · exact szr r hr
    · show ((sj.map PyData.int).set u v).length ≤ _
      rw [List.length_set, List.length_map, hlj]; omega
theorem w_bad_event {m : Nat} (h1 : 1 ≤ m) (hm : m ≤ 10) (h : ∀ d, lotB d m = false → rt d) : W__law_bad_event (iD m) rt er := by
  unfold W__law_bad_event
  refine w_draw (m := 7) (by decide) (by decide) fun way hway => ?_
  refine w_draw (by omega) (by omega) fun a ha => ?_
  refine ⟨by simp, by simp, by simp, by simp, by simp, by simp, by simp, ?_⟩
  have two : ∀ x y : Int, ¬ (0 ≤ x ∧ x < y ∧ y < m) → lotB (.tuple [.int x, .int y]) m = false := fun x y hn => by
    show ((decide (0 ≤ x) && decide (x ≤ (m : Int) - 1)) && ((decide (x + 1 ≤ y) && decide (y ≤ (m : Int) - 1)) && true)) = false
    by_cases c1 : 0 ≤ x
    · by_cases c2 : x + 1 ≤ y
      · have c3 : ¬ y ≤ (m : Int) - 1 := fun c3 => hn ⟨c1, by omega, by omega⟩
        rw [decide_eq_false c3, Bool.and_false, Bool.false_and, Bool.and_false]
      · rw [decide_eq_false c2, Bool.false_and, Bool.false_and, Bool.and_false]
    · rw [decide_eq_false c1]; rfl
  match way, hway with
  | 0, _ => exact ix_ok (n := 0) rfl (h _ rfl)
  | 1, _ => exact ix_ok (n := 1) rfl (h _ (two _ _ (by omega)))
  | 2, _ => exact ix_ok (n := 2) rfl (h _ (two _ _ (by omega)))
  | 3, _ => exact ix_ok (n := 3) rfl (h _ (two _ _ (by omega)))
  | 4, _ => exact ix_ok (n := 4) rfl (h _ (two _ _ (by omega)))
  | 5, _ => exact ix_ok (n := 5) rfl (h _ rfl)
  | 6, _ => exact ix_ok (n := 6) rfl (h _ rfl)
  | w + 7, h => exact absurd h (by omega)
/-! what is raised, asked for its kind -/
theorem isX_ok {xn : List Str} {n X : Str} {b : Bool} {k : DP} (h1 : (xn.contains n && xn.contains X) = true) (hb : subX n X = b) (hk : k (.bool b)) : isXW xn n X k := by
  rw [Bool.and_eq_true, List.contains_iff_mem, List.contains_iff_mem] at h1
  exact ⟨h1.1, h1.2, by rw [hb]; exact hk⟩
theorem isV_ok {xn : List Str} {n : Str} {k : DP} (h1 : xn.contains n = true) (hk : k (.bool true)) : isVW xn n k := ⟨List.contains_iff_mem.mp h1, hk⟩
theorem catch_ok {xn : List Str} {n J : Str} {p q : Prop} (h1 : (xn.contains n && xn.contains J) = true) (hb : subX n J = true) (hk : p) : catchW xn n J p q := by
  rw [Bool.and_eq_true, List.contains_iff_mem, List.contains_iff_mem] at h1
  exact ⟨h1.1, h1.2, by rw [hb]; exact hk⟩
end
end Eh

namespace Eh
open PySem PySem.Spec PyProof.Rows L2
section
variable {rt : PyData → Prop} {rn : List PyData → Prop} {er : XP} {d e : PyData} {n w : Nat} {s : List Int} {ss : List (List Int)} {ev : List Nat}
theorem shd_lot (xs : List Nat) {k : Nat} : ShD (k + 1) (.list (xs.map iD)) := shD_list fun d hd => by
  obtain ⟨x, _, rfl⟩ := List.mem_map.mp hd
  exact shD_int _
theorem shd_lotT (xs : List Nat) {k : Nat} : ShD (k + 1) (lotN xs) := shD_tup fun d hd => by
  obtain ⟨x, _, rfl⟩ := List.mem_map.mp hd
  exact shD_int _
theorem shd_rows (ss : List (List Int)) : ShD 2 (.list (ss.map lstR)) := shD_list fun d hd => by
  obtain ⟨x, _, rfl⟩ := List.mem_map.mp hd
  exact shD_list fun d hd => by
    obtain ⟨x, _, rfl⟩ := List.mem_map.mp hd
    exact shD_int _
/-- a list that is asked whether it is empty -/
theorem eqNil_ok {xs : List Nat} {k : DP} (hk : k (.bool xs.isEmpty)) : eqW (.list (xs.map iD)) (.list []) k := ⟨(shd_lot xs (k := 0)).sh (by decide), rfl, by
  cases xs with
  | nil => exact hk
  | cons x xs => exact hk⟩
theorem filter_empty {xs : List Nat} {p : Nat → Bool} : (xs.filter fun u => !p u).isEmpty = xs.all p := by
  rw [Bool.eq_iff_iff, List.isEmpty_iff, List.filter_eq_nil_iff, List.all_eq_true]
  exact ⟨fun h x hx => by have := h x hx; cases e : p x; rw [e] at this; exact absurd rfl this; rfl, fun h x hx => by rw [h x hx]; decide⟩
theorem set_rows {ss : List (List Int)} {p : Nat} {s : List Int} (f : List Int → PyData) : (ss.map f).set p (f s) = (ss.set p s).map f := (List.map_set ..).symm
theorem GoodS.set (g : GoodS n ss) {p : Nat} (hs : s.length = n ∧ ∀ x ∈ s, 0 ≤ x) : GoodS n (ss.set p s) := ⟨by rw [List.length_set]; exact g.p1, by rw [List.length_set]; exact g.p4, g.n1, g.n10, fun t ht => by
  rcases List.mem_or_eq_of_mem_set ht with h | rfl
  · exact g.row t h
  · exact hs⟩
theorem good_of {m p : Nat} (h1 : 1 ≤ m) (h2 : m ≤ 10) (h3 : 1 ≤ p) (h4 : p ≤ 4) (hl : ss.length = p) (hr : ∀ s ∈ ss, s.length = m ∧ ∀ x ∈ s, 0 ≤ x) : GoodS m ss := ⟨by omega, by omega, h1, h2, hr⟩
theorem rowL (s : List Int) : RowD s (lstR s) := .inl rfl
theorem rows_at {k : Nat} (h : ss[k]? = some s) : (ss.map lstR)[k]? = some (lstR s) := by rw [List.getElem?_map, h]; rfl
theorem ftB_nat {a m : Nat} (h : a < m) : ftB (iD a) 0 ((m : Int) - 1) = true := by
  show (decide ((0 : Int) ≤ (a : Int)) && decide ((a : Int) ≤ (m : Int) - 1)) = true
  rw [decide_eq_true (by omega), decide_eq_true (by omega)]; rfl
/-- the one of 6 that is no number from 0 to m - 1 -/
theorem nobody_ok {m : Nat} (h1 : 1 ≤ m) (hm : m ≤ 10) {r : Nat} (hr : r < 6) : ∃ d, ([PyData.int (-1), .int (m : Nat), .none, .bool true, .str (PySem.Str.ofString "0"), .int ((10 : Int) ^ ((20 : Int).toNat))] : List PyData)[r]? = some d ∧ ftB d 0 ((m : Int) - 1) = false := by
  match r, hr with
  | 0, _ => exact ⟨_, rfl, rfl⟩
  | 1, _ => exact ⟨_, rfl, by show (decide ((0 : Int) ≤ (m : Int)) && decide ((m : Int) ≤ (m : Int) - 1)) = false; rw [decide_eq_false (p := (m : Int) ≤ (m : Int) - 1) (by omega), Bool.and_false]⟩
  | 2, _ => exact ⟨_, rfl, rfl⟩
  | 3, _ => exact ⟨_, rfl, rfl⟩
  | 4, _ => exact ⟨_, rfl, rfl⟩
  | 5, _ => exact ⟨_, rfl, by
      show (decide ((0 : Int) ≤ (10 : Int) ^ 20) && decide ((10 : Int) ^ 20 ≤ (m : Int) - 1)) = false
      have : ¬ ((10 : Int) ^ 20 ≤ (m : Int) - 1) := by omega
      rw [decide_eq_false this, Bool.and_false]⟩
  | r + 6, h => exact absurd h (by omega)
end
end Eh

namespace Eh
open PySem PySem.Spec PyProof.Rows L2
variable {A : Str → Addr} {K : PySem.W.Frag} {w : World}
abbrev N_lots_of : List Str := ["sights", "left", "found", "lot", "at", "sight", "world"]
def t_lots_of (K : PySem.W.Frag) (w : World) (sp_possible : Sp) (E : XK) : TS :=
  (tSeq (tAsg (tLstRg (tRg1 (tCB (rLenA K) (tCons (tOp (rIx K) (tVar 0) (tC (.int 0))) tNil)))) (gName 1))
    (tSeq (tAsg (tLst tNil) (gName 2))
    (tSeq (tWhile (tTest (tOp rGtI (tCB (rLenA K) (tCons (tVar 1) tNil)) (tC (.int 0)))) (tSeq (tAsg (tLst (tCons (tOp (rIx K) (tVar 1) (tC (.int 0))) tNil)) (gName 3))
    (tSeq (tAsg (tC (.int 0)) (gName 4))
    (tSeq (tWhile (tTest (tOp rLtI (tVar 4) (tCB (rLenA K) (tCons (tVar 3) tNil)))) (tSeq (tFor (iSeq K (tVar 0)) (gName 5) (tDrop (tBM K "list" rExtend (tVar 3) (tCons (tLc (iSeq K (tCall sp_possible [] E (tCons (tVar 5) (tCons (tOp (rIx K) (tVar 3) (tVar 4)) tNil)))) (gName 6) (tTest (tOp (rNiA K) (tVar 6) (tVar 3))) (tVar 6) [6]) tNil))))
    (tAug 4 (tC (.int 1)) (ipI fun i j => i + j))))
    (tSeq (tDrop (tBM K "list" rAppend (tVar 2) (tCons (tThen (tCB (rSortedA K) (tCons (tVar 3) tNil)) (kTup K)) tNil)))
    (tAsg (tLc (iSeq K (tVar 1)) (gName 6) (tTest (tOp (rNiA K) (tVar 6) (tVar 3))) (tVar 6) [6]) (gName 1)))))))
    (tRet (tVar 2)))))
@[irreducible] def W_lots_of (sights : PyData) (rt : List PyData → Prop) (er : XP) : Prop :=
  seqW sights fun l1 => ixW l1 (.int 0) fun t1 => seqW t1 fun l2 => lenW l2 fun t2 => rgLW t2 fun l3 => fzW l3 fun left => dispL [] fun found => whileW (σ := List PyData × PyData) (found, left) (fun s k1 => seqW s.2 fun l5 => lenW l5 fun t4 => gtW t4 (.int 0) fun t5 => boolW t5 fun b1 => k1 b1) (fun s nx bk => seqW s.2 fun l6 => ixW l6 (.int 0) fun t6 => dispL [t6] fun lot => letW (.int 0) fun at_ => whileW (σ := List PyData × PyData) (lot, at_) (fun s_2 k2 => lenW s_2.1 fun t8 => ltW s_2.2 t8 fun t9 => boolW t9 fun b2 => k2 b2) (fun s_2 nx bk => seqW sights fun l8 => forW (σ := List PyData) (fun sight s_3 nx bk => ixW s_3 s_2.2 fun t11 => W_possible sight t11 (fun t10 => seqW t10 fun l9 => lcW l9 (fun world Y N => niW world s_3 fun t12 => boolW t12 fun b3 => iteW b3 (Y world) N) fun l10 => extW s_3 l10 fun lot2 => nx lot2) er) (fun s_3 => augW (fun i j => i + j) s_2.2 (.int 1) fun at_2 => nx (s_3, at_2)) l8 s_2.1) (fun s_2 => sortW s_2.1 fun l11 => tupW l11 fun t13 => appW s.1 t13 fun found2 => seqW s.2 fun l12 => lcW l12 (fun world2 Y2 N2 => niW world2 s_2.1 fun t14 => boolW t14 fun b4 => iteW b4 (Y2 world2) N2) fun l13 => fzW l13 fun left2 => nx (found2, left2))) (fun s => rt s.1)
theorem P_lots_of (vs : List V) (H : Hp) (Q : VK) (E : XK) (h : spFN A (vl1 W_lots_of) vs H Q E) : t_lots_of K w (spF A (vl2 W_possible)) E { nx := fun _ H' => Q .non H', rt := Q } (L2.start N_lots_of vs) H :=
  spFN_body (N := N_lots_of) (t := fun E => t_lots_of K w (spF A (vl2 W_possible)) E) h fun ds rt er B F0 D hW hr hx => by
    obtain ⟨sights, rfl, h⟩ := vl1_inv hW
    unfold W_lots_of at h
    show At pc0 B F0 [.dat sights, .no, .no, .no, .no, .no, .no] (t_lots_of K w (spF A (vl2 W_possible)) E D)
    refine aw_seq ?_
    refine aw_asg (Γ' := fun left => [.dat sights, .dat left, .no, .no, .no, .no, .no]) (fun _ => rfl) (Nw.fz (nw_rg (ew_len (Ew.s (ew_ix (Ew.s (ew_var rfl)) ew_int))))) (RaiseW.tt0 hx) h (fun left h => ?_)
    refine aw_seq ?_
    refine aw_asgN (Γ' := fun found => [.dat sights, .dat left, .own found, .no, .no, .no, .no]) (fun _ => rfl) (nw_lst aw_nil) (RaiseW.tt0 hx) h (fun found h => ?_)
    refine aw_seq ?_
    refine aw_while (σT := List PyData × PyData) (X := er) (fun s => [.dat sights, .dat s.2, .own s.1, .no, .no, .no, .no]) (.keep (.keep (.keep (.keep (.keep (.keep (.keep .nil))))))) (fun F0 D => RetN pc0 B F0 D rt) (ron_chain hr) hx h (fun s => ⟨_, (tw_test (ew_op ov_gt (ew_len (Ew.s (ew_var rfl))) ew_int)), fun _ h => h⟩) (fun F0 s nx bk D hr hx hn hc hb h => ?_) (fun s h => ?_)
    · refine aw_seq ?_
      refine aw_asgN (Γ' := fun lot => [.dat sights, .dat s.2, .own s.1, .own lot, .no, .no, .no]) (fun _ => rfl) (nw_lst (aw_cons (ew_ix (Ew.s (ew_var rfl)) ew_int) aw_nil)) (RaiseW.tt0 hx) h (fun lot h => ?_)
      refine aw_seq ?_
      refine aw_asg (Γ' := fun at_ => [.dat sights, .dat s.2, .own s.1, .own lot, .dat at_, .no, .no]) (fun _ => rfl) (ew_let ew_int) (RaiseW.tt0 hx) h (fun at_ h => ?_)
      refine aw_seq ?_
      refine aw_while (σT := List PyData × PyData) (X := er) (fun s_2 => [.dat sights, .dat s.2, .own s.1, .own s_2.1, .dat s_2.2, .no, .no]) (.keep (.keep (.keep (.keep (.keep (.keep (.keep .nil))))))) (fun F0 D => RetN pc0 B F0 D rt) (ron_chain hr) hx h (fun s_2 => ⟨_, (tw_test (ew_op ov_lt (ew_var rfl) (ew_len (sw_own rfl)))), fun _ h => h⟩) (fun F0 s_2 nx bk D hr hx hn hc hb h => ?_) (fun s_2 h => ?_)
      · refine aw_seq ?_
        refine aw_for (σT := List PyData) (vs := [5]) (fun s_3 => [.dat sights, .dat s.2, .own s.1, .own s_3, .dat s_2.2, .no, .no]) (.keep (.keep (.keep (.keep (.keep (.keep (.keep .nil))))))) (fw_seq (ew_var rfl)) (fun F0 D => RetN pc0 B F0 D rt) (ron_chain hr) hx h (fun F0 sight s_3 nx bk D hr hx hn hc hb h => ?_) (fun s_3 h => ?_)
        · refine ⟨[.dat sights, .dat s.2, .own s.1, .own s_3, .dat s_2.2, .dat sight, .no], tg_name (by decide), ?_⟩
          refine aw_extend (Γ' := fun lot2 => [.dat sights, .dat s.2, .own s.1, .own lot2, .dat s_2.2, .dat sight, .no]) rfl (fun _ => rfl) (Nw.ls (nw_lc (iw_seq (Ew.s (ew_call (aw_cons (ew_var rfl) (aw_cons (ew_ix (sw_own rfl) (ew_var rfl)) aw_nil))))) (fun x Y N h => ⟨_, _, _, tg_name (by decide), (tw_test (ew_ni (ew_var rfl) (sw_own rfl))), (ew_var rfl), h⟩))) (RaiseW.tt0 hx) h (fun lot2 h => ?_)
          exact at_wk (.keep (.keep (.keep (.keep (.keep (.drop (.keep .nil))))))) (hn _ h)
        · refine aw_aug (Γ' := fun at_2 => [.dat sights, .dat s.2, .own s.1, .own s_3, .dat at_2, .no, .no]) rfl (fun _ => rfl) ew_int (RaiseW.tt0 hx) h (fun at_2 h => ?_)
          exact at_wk (.keep (.keep (.keep (.keep (.keep (.keep (.keep .nil))))))) (hn _ h)
      · refine aw_seq ?_
        refine aw_append (Γ' := fun found2 => [.dat sights, .dat s.2, .own found2, .own s_2.1, .dat s_2.2, .no, .no]) rfl (fun _ => rfl) (ew_tupleL (Nw.ls (nw_sorted (lw_own rfl)))) (RaiseW.tt0 hx) h (fun found2 h => ?_)
        refine aw_asg (Γ' := fun left2 => [.dat sights, .dat left2, .own found2, .own s_2.1, .dat s_2.2, .no, .no]) (fun _ => rfl) (Nw.fz (nw_lc (iw_seq (Ew.s (ew_var rfl))) (fun x Y N h => ⟨_, _, _, tg_name (by decide), (tw_test (ew_ni (ew_var rfl) (sw_own rfl))), (ew_var rfl), h⟩))) (RaiseW.tt0 hx) h (fun left2 h => ?_)
        exact at_wk (.keep (.keep (.keep (.drop (.drop (.keep (.keep .nil))))))) (hn _ h)
    · exact aw_retO hr rfl h
abbrev N_common_worlds : List Str := ["sights", "event", "lots", "lot", "world"]
def t_common_worlds (K : PySem.W.Frag) (w : World) (sp_lots_of : Sp) (E : XK) : TS :=
  (tSeq (tAsg (tLc (iSeq K (tCall sp_lots_of [] E (tCons (tVar 0) tNil))) (gName 3) (tB (tCB (rAll K) (tCons (tLc (iSeq K (tVar 3)) (gName 4) tYes (tOp (rInA K) (tVar 4) (tVar 1)) [4]) tNil))) (tVar 3) [3]) (gName 2))
    (tRet (tThen (tCB (rSortedA K) (tCons (tLc2 (iSeq K (tVar 2)) (gName 3) tYes (iSeq K (tVar 3)) (gName 4) tYes (tVar 4) [3, 4] [4]) tNil)) (kTup K))))
@[irreducible] def W_common_worlds (sights : PyData) (event : PyData) (rt : PyData → Prop) (er : XP) : Prop :=
  W_lots_of sights (fun l1 => lcW l1 (fun lot Y2 N2 => seqW lot fun l2 => lcMW l2 (fun world Y => seqW event fun l3 => inW world l3 fun t1 => Y t1) fun l4 => allW l4 fun t2 => boolW t2 fun b1 => iteW b1 (Y2 lot) N2) fun l5 => fzW l5 fun lots => seqW lots fun l6 => lc2W l6 (fun lot2 Y3 N3 => iteW true (seqW lot2 fun l7 => Y3 l7 (fun world2 Y4 N4 => iteW true (Y4 world2) N4)) N3) fun l8 => sortW l8 fun l9 => tupW l9 fun t4 => rt t4) er
theorem P_common_worlds (vs : List V) (H : Hp) (Q : VK) (E : XK) (h : spF A (vl2 W_common_worlds) vs H Q E) : t_common_worlds K w (spFN A (vl1 W_lots_of)) E { nx := fun _ H' => Q .non H', rt := Q } (L2.start N_common_worlds vs) H :=
  spF_body (N := N_common_worlds) (t := fun E => t_common_worlds K w (spFN A (vl1 W_lots_of)) E) h fun ds rt er B F0 D hW hr hx hn => by
    obtain ⟨sights, event, rfl, h⟩ := vl2_inv hW
    unfold W_common_worlds at h
    show At pc0 B F0 [.dat sights, .dat event, .no, .no, .no] (t_common_worlds K w (spFN A (vl1 W_lots_of)) E D)
    refine aw_seq ?_
    refine aw_asg (Γ' := fun lots => [.dat sights, .dat event, .dat lots, .no, .no]) (fun _ => rfl) (Nw.fz (nw_lc (iw_seq (Nw.s (nw_call (aw_cons (ew_var rfl) aw_nil)))) (fun x Y N h => ⟨_, _, _, tg_name (by decide), (tw_B (ew_all (Nw.ls (nw_lcM (iw_seq (Ew.s (ew_var rfl))) (fun x Y h => ⟨_, _, tg_name (by decide), (ew_in (ew_var rfl) (Ew.s (ew_var rfl))), h⟩))))), (ew_var rfl), h⟩))) (RaiseW.tt0 hx) h (fun lots h => ?_)
    exact aw_ret hr (ew_tupleL (Nw.ls (nw_sorted (Nw.ls (nw_lc2 (iw_seq (Ew.s (ew_var rfl))) (fun lot2 Y N h => ⟨_, [.dat sights, .dat event, .dat lots, .dat lot2, .no], _, _, _, tg_name (by decide), tw_yes, (fw_seq (ew_var rfl)), h, (.keep (.keep (.keep (.keep (.keep .nil))))), rfl, (fun y Y1 N1 h => ⟨_, _, _, tg_name (by decide), tw_yes, (ew_var rfl), h⟩)⟩)))))) (RaiseW.tt0 hx) h
abbrev N_everybody_knows : List Str := ["sights", "event", "told"]
def t_everybody_knows (K : PySem.W.Frag) (w : World) (sp_check_event : Sp) (sp_check_sights : Sp) (sp_known_by_all : Sp) (E : XK) : TS :=
  (tSeq (tAsg (tCall sp_check_sights [] E (tCons (tVar 0) tNil)) (gName 2))
    (tSeq (tDrop (tCall sp_check_event [] E (tCons (tVar 2) (tCons (tVar 1) tNil))))
    (tRet (tCall sp_known_by_all [] E (tCons (tVar 2) (tCons (tVar 1) tNil))))))
@[irreducible] def W_everybody_knows (sights : PyData) (event : PyData) (rt : PyData → Prop) (er : XP) : Prop :=
  W_check_sights sights (fun l1 => fzW l1 fun told => W_check_event told event (fun t2 => W_known_by_all told event (fun t3 => rt t3) er) er) er
theorem P_everybody_knows (vs : List V) (H : Hp) (Q : VK) (E : XK) (h : spF A (vl2 W_everybody_knows) vs H Q E) : t_everybody_knows K w (spF A (vl2 W_check_event)) (spFN A (vl1 W_check_sights)) (spF A (vl2 W_known_by_all)) E { nx := fun _ H' => Q .non H', rt := Q } (L2.start N_everybody_knows vs) H :=
  spF_body (N := N_everybody_knows) (t := fun E => t_everybody_knows K w (spF A (vl2 W_check_event)) (spFN A (vl1 W_check_sights)) (spF A (vl2 W_known_by_all)) E) h fun ds rt er B F0 D hW hr hx hn => by
    obtain ⟨sights, event, rfl, h⟩ := vl2_inv hW
    unfold W_everybody_knows at h
    show At pc0 B F0 [.dat sights, .dat event, .no] (t_everybody_knows K w (spF A (vl2 W_check_event)) (spFN A (vl1 W_check_sights)) (spF A (vl2 W_known_by_all)) E D)
    refine aw_seq ?_
    refine aw_asg (Γ' := fun told => [.dat sights, .dat event, .dat told]) (fun _ => rfl) (Nw.fz (nw_call (aw_cons (ew_var rfl) aw_nil))) (RaiseW.tt0 hx) h (fun told h => ?_)
    refine aw_seq ?_
    refine aw_drop (ew_call (aw_cons (ew_var rfl) (aw_cons (ew_var rfl) aw_nil))) (RaiseW.tt0 hx) h (fun _ h => ?_)
    exact aw_ret hr (ew_call (aw_cons (ew_var rfl) (aw_cons (ew_var rfl) aw_nil))) (RaiseW.tt0 hx) h
abbrev N_common : List Str := ["sights", "event", "told"]
def t_common (K : PySem.W.Frag) (w : World) (sp_check_event : Sp) (sp_check_sights : Sp) (sp_common_worlds : Sp) (E : XK) : TS :=
  (tSeq (tAsg (tCall sp_check_sights [] E (tCons (tVar 0) tNil)) (gName 2))
    (tSeq (tDrop (tCall sp_check_event [] E (tCons (tVar 2) (tCons (tVar 1) tNil))))
    (tRet (tCall sp_common_worlds [] E (tCons (tVar 2) (tCons (tVar 1) tNil))))))
@[irreducible] def W_common (sights : PyData) (event : PyData) (rt : PyData → Prop) (er : XP) : Prop :=
  W_check_sights sights (fun l1 => fzW l1 fun told => W_check_event told event (fun t2 => W_common_worlds told event (fun t3 => rt t3) er) er) er
theorem P_common (vs : List V) (H : Hp) (Q : VK) (E : XK) (h : spF A (vl2 W_common) vs H Q E) : t_common K w (spF A (vl2 W_check_event)) (spFN A (vl1 W_check_sights)) (spF A (vl2 W_common_worlds)) E { nx := fun _ H' => Q .non H', rt := Q } (L2.start N_common vs) H :=
  spF_body (N := N_common) (t := fun E => t_common K w (spF A (vl2 W_check_event)) (spFN A (vl1 W_check_sights)) (spF A (vl2 W_common_worlds)) E) h fun ds rt er B F0 D hW hr hx hn => by
    obtain ⟨sights, event, rfl, h⟩ := vl2_inv hW
    unfold W_common at h
    show At pc0 B F0 [.dat sights, .dat event, .no] (t_common K w (spF A (vl2 W_check_event)) (spFN A (vl1 W_check_sights)) (spF A (vl2 W_common_worlds)) E D)
    refine aw_seq ?_
    refine aw_asg (Γ' := fun told => [.dat sights, .dat event, .dat told]) (fun _ => rfl) (Nw.fz (nw_call (aw_cons (ew_var rfl) aw_nil))) (RaiseW.tt0 hx) h (fun told h => ?_)
    refine aw_seq ?_
    refine aw_drop (ew_call (aw_cons (ew_var rfl) (aw_cons (ew_var rfl) aw_nil))) (RaiseW.tt0 hx) h (fun _ h => ?_)
    exact aw_ret hr (ew_call (aw_cons (ew_var rfl) (aw_cons (ew_var rfl) aw_nil))) (RaiseW.tt0 hx) h
abbrev N_meet : List Str := ["sights"]
def t_meet (K : PySem.W.Frag) (w : World) (sp_check_sights : Sp) (sp_lots_of : Sp) (E : XK) : TS :=
  (tRet (tThen (tCall sp_lots_of [] E (tCons (tCall sp_check_sights [] E (tCons (tVar 0) tNil)) tNil)) (kTup K)))
@[irreducible] def W_meet (sights : PyData) (rt : PyData → Prop) (er : XP) : Prop :=
  W_check_sights sights (fun l2 => fzW l2 fun t1 => W_lots_of t1 (fun l1 => tupW l1 fun t2 => rt t2) er) er
theorem P_meet (vs : List V) (H : Hp) (Q : VK) (E : XK) (h : spF A (vl1 W_meet) vs H Q E) : t_meet K w (spFN A (vl1 W_check_sights)) (spFN A (vl1 W_lots_of)) E { nx := fun _ H' => Q .non H', rt := Q } (L2.start N_meet vs) H :=
  spF_body (N := N_meet) (t := fun E => t_meet K w (spFN A (vl1 W_check_sights)) (spFN A (vl1 W_lots_of)) E) h fun ds rt er B F0 D hW hr hx hn => by
    obtain ⟨sights, rfl, h⟩ := vl1_inv hW
    unfold W_meet at h
    show At pc0 B F0 [.dat sights] (t_meet K w (spFN A (vl1 W_check_sights)) (spFN A (vl1 W_lots_of)) E D)
    exact aw_ret hr (ew_tupleL (Nw.ls (nw_call (aw_cons (Nw.fz (nw_call (aw_cons (ew_var rfl) aw_nil))) aw_nil)))) (RaiseW.tt0 hx) h
abbrev N__law_within : List Str := ["lot", "event", "u"]
def t__law_within (K : PySem.W.Frag) (w : World) (E : XK) : TS :=
  (tRet (tOp (rEqA K) (tLc (iSeq K (tVar 0)) (gName 2) (tTest (tOp (rNiA K) (tVar 2) (tVar 1))) (tVar 2) [2]) (tLst tNil)))
@[irreducible] def W__law_within (lot : PyData) (event : PyData) (rt : PyData → Prop) (er : XP) : Prop :=
  seqW lot fun l1 => lcW l1 (fun u Y N => seqW event fun l2 => niW u l2 fun t1 => boolW t1 fun b1 => iteW b1 (Y u) N) fun l3 => fzW l3 fun t2 => dispL [] fun l4 => fzW l4 fun t3 => eqW t2 t3 fun t4 => rt t4
theorem P__law_within (vs : List V) (H : Hp) (Q : VK) (E : XK) (h : spF A (vl2 W__law_within) vs H Q E) : t__law_within K w E { nx := fun _ H' => Q .non H', rt := Q } (L2.start N__law_within vs) H :=
  spF_body (N := N__law_within) (t := fun E => t__law_within K w E) h fun ds rt er B F0 D hW hr hx hn => by
    obtain ⟨lot, event, rfl, h⟩ := vl2_inv hW
    unfold W__law_within at h
    show At pc0 B F0 [.dat lot, .dat event, .no] (t__law_within K w E D)
    exact aw_ret hr (ew_op ov_eq (Nw.fz (nw_lc (iw_seq (Ew.s (ew_var rfl))) (fun x Y N h => ⟨_, _, _, tg_name (by decide), (tw_test (ew_ni (ew_var rfl) (Ew.s (ew_var rfl)))), (ew_var rfl), h⟩))) (Nw.fz (nw_lst aw_nil))) (RaiseW.tt0 hx) h
abbrev N__law_knows : List Str := ["sight", "event", "w"]
def t__law_knows (K : PySem.W.Frag) (w : World) (sp__law_part : Sp) (sp__law_within : Sp) (E : XK) : TS :=
  (tRet (tLc (iRng1 (tCons (tCB (rLenA K) (tCons (tVar 0) tNil)) tNil)) (gName 2) (tB (tCall sp__law_within [] E0 (tCons (tCall sp__law_part [] E0 (tCons (tVar 0) (tCons (tVar 2) tNil))) (tCons (tVar 1) tNil)))) (tVar 2) [2]))
@[irreducible] def W__law_knows (sight : PyData) (event : PyData) (rt : List PyData → Prop) (er : XP) : Prop :=
  seqW sight fun l1 => lenW l1 fun t1 => rngW t1 fun it1 => lcW it1 (fun w_ Y N => W__law_part sight w_ (fun l2 => fzW l2 fun t3 => W__law_within t3 event (fun t2 => boolW t2 fun b1 => iteW b1 (Y w_) N) noX) noX) fun l3 => rt l3
theorem P__law_knows (vs : List V) (H : Hp) (Q : VK) (E : XK) (h : spFN A (vl2 W__law_knows) vs H Q E) : t__law_knows K w (spFN A (vl2 W__law_part)) (spF A (vl2 W__law_within)) E { nx := fun _ H' => Q .non H', rt := Q } (L2.start N__law_knows vs) H :=
  spFN_body (N := N__law_knows) (t := fun E => t__law_knows K w (spFN A (vl2 W__law_part)) (spF A (vl2 W__law_within)) E) h fun ds rt er B F0 D hW hr hx => by
    obtain ⟨sight, event, rfl, h⟩ := vl2_inv hW
    unfold W__law_knows at h
    show At pc0 B F0 [.dat sight, .dat event, .no] (t__law_knows K w (spFN A (vl2 W__law_part)) (spF A (vl2 W__law_within)) E D)
    exact aw_retN hr (nw_lc (Fw.it (fw_rng1 (ew_len (Ew.s (ew_var rfl))))) (fun x Y N h => ⟨_, _, _, tg_name (by decide), (tw_B (ew_call (aw_cons (Nw.fz (nw_call (aw_cons (ew_var rfl) (aw_cons (ew_var rfl) aw_nil)))) (aw_cons (ew_var rfl) aw_nil)))), (ew_var rfl), h⟩)) (RaiseW.tt0 hx) h
abbrev N__law_all_know : List Str := ["sights", "event", "lot", "sight", "known", "w"]
def t__law_all_know (K : PySem.W.Frag) (w : World) (sp__law_knows : Sp) (E : XK) : TS :=
  (tSeq (tAsg (tLstRg (tRg1 (tCB (rLenA K) (tCons (tOp (rIx K) (tVar 0) (tC (.int 0))) tNil)))) (gName 2))
    (tSeq (tFor (iSeq K (tVar 0)) (gName 3) (tSeq (tAsg (tCall sp__law_knows [] E (tCons (tVar 3) (tCons (tVar 1) tNil))) (gName 4))
    (tAsg (tLc (iSeq K (tVar 2)) (gName 5) (tTest (tOp (rInA K) (tVar 5) (tVar 4))) (tVar 5) [5]) (gName 2))))
    (tRet (tVar 2))))
@[irreducible] def W__law_all_know (sights : PyData) (event : PyData) (rt : PyData → Prop) (er : XP) : Prop :=
  seqW sights fun l1 => ixW l1 (.int 0) fun t1 => seqW t1 fun l2 => lenW l2 fun t2 => rgLW t2 fun l3 => fzW l3 fun lot => seqW sights fun l4 => forW (σ := PyData) (fun sight s nx bk => W__law_knows sight event (fun l5 => fzW l5 fun known => seqW s fun l6 => lcW l6 (fun w_ Y N => seqW known fun l7 => inW w_ l7 fun t5 => boolW t5 fun b1 => iteW b1 (Y w_) N) fun l8 => fzW l8 fun lot2 => nx lot2) er) (fun s => rt s) l4 lot
theorem P__law_all_know (vs : List V) (H : Hp) (Q : VK) (E : XK) (h : spF A (vl2 W__law_all_know) vs H Q E) : t__law_all_know K w (spFN A (vl2 W__law_knows)) E { nx := fun _ H' => Q .non H', rt := Q } (L2.start N__law_all_know vs) H :=
  spF_body (N := N__law_all_know) (t := fun E => t__law_all_know K w (spFN A (vl2 W__law_knows)) E) h fun ds rt er B F0 D hW hr hx hn => by
    obtain ⟨sights, event, rfl, h⟩ := vl2_inv hW
    unfold W__law_all_know at h
    show At pc0 B F0 [.dat sights, .dat event, .no, .no, .no, .no] (t__law_all_know K w (spFN A (vl2 W__law_knows)) E D)
    refine aw_seq ?_
    refine aw_asg (Γ' := fun lot => [.dat sights, .dat event, .dat lot, .no, .no, .no]) (fun _ => rfl) (Nw.fz (nw_rg (ew_len (Ew.s (ew_ix (Ew.s (ew_var rfl)) ew_int))))) (RaiseW.tt0 hx) h (fun lot h => ?_)
    refine aw_seq ?_
    refine aw_for (σT := PyData) (vs := [3]) (fun s => [.dat sights, .dat event, .dat s, .no, .no, .no]) (.keep (.keep (.keep (.keep (.keep (.keep .nil)))))) (fw_seq (ew_var rfl)) (fun F0 D => RetOk pc0 B F0 D rt) (rok_chain hr) hx h (fun F0 sight s nx bk D hr hx hn hc hb h => ?_) (fun s h => ?_)
    · refine ⟨[.dat sights, .dat event, .dat s, .dat sight, .no, .no], tg_name (by decide), ?_⟩
      refine aw_seq ?_
      refine aw_asg (Γ' := fun known => [.dat sights, .dat event, .dat s, .dat sight, .dat known, .no]) (fun _ => rfl) (Nw.fz (nw_call (aw_cons (ew_var rfl) (aw_cons (ew_var rfl) aw_nil)))) (RaiseW.tt0 hx) h (fun known h => ?_)
      refine aw_asg (Γ' := fun lot2 => [.dat sights, .dat event, .dat lot2, .dat sight, .dat known, .no]) (fun _ => rfl) (Nw.fz (nw_lc (iw_seq (Ew.s (ew_var rfl))) (fun x Y N h => ⟨_, _, _, tg_name (by decide), (tw_test (ew_in (ew_var rfl) (Ew.s (ew_var rfl)))), (ew_var rfl), h⟩))) (RaiseW.tt0 hx) h (fun lot2 h => ?_)
      exact at_wk (.keep (.keep (.keep (.drop (.drop (.keep .nil)))))) (hn _ h)
    · exact aw_ret hr (ew_var rfl) (RaiseW.tt0 hx) h
end Eh

namespace Eh
open PySem PySem.Spec PyProof.Rows L2
/-! ### where one can go; what is common -/
def Adj (n : Nat) (ss : List (List Int)) (u v : Nat) : Prop := u < n ∧ v < n ∧ ∃ s ∈ ss, s.getD u 0 = s.getD v 0
inductive Rch (n : Nat) (ss : List (List Int)) (u : Nat) : Nat → Prop
  | refl : Rch n ss u u
  | step {v w : Nat} : Rch n ss u v → Adj n ss v w → Rch n ss u w
section
variable {n u v w a : Nat} {ss : List (List Int)}
theorem Adj.symm (h : Adj n ss u v) : Adj n ss v u := ⟨h.2.1, h.1, h.2.2.elim fun s ⟨h1, h2⟩ => ⟨s, h1, h2.symm⟩⟩
theorem Rch.trans (h : Rch n ss u v) (k : Rch n ss v w) : Rch n ss u w := by
  induction k with
  | refl => exact h
  | step _ a ih => exact ih.step a
theorem Rch.symm (h : Rch n ss u v) : Rch n ss v u := by
  induction h with
  | refl => exact .refl
  | step _ a ih => exact (Rch.refl.step a.symm).trans ih
theorem Rch.lt (h : Rch n ss u v) (hu : u < n) : v < n := by
  cases h with
  | refl => exact hu
  | step _ a => exact a.2.1
/-- what is closed and holds u holds all that u reaches -/
theorem Rch.closed {S : Nat → Prop} (h : Rch n ss u v) (hu : S u) (hc : ∀ x y, S x → Adj n ss x y → S y) : S v := by
  induction h with
  | refl => exact hu
  | step _ a ih => exact hc _ _ ih a
/-- a proposition as a Bool -/
noncomputable def tf (p : Prop) : Bool := @decide p (Classical.propDecidable p)
theorem tf_iff {p : Prop} : tf p = true ↔ p := by unfold tf; exact @decide_eq_true_iff p (Classical.propDecidable p)
theorem tf_false {p : Prop} : tf p = false ↔ ¬ p := by unfold tf; exact @decide_eq_false_iff_not p (Classical.propDecidable p)
noncomputable def lotC (n : Nat) (ss : List (List Int)) (a : Nat) : List Nat := (List.range n).filter fun v => tf (Rch n ss a v)
noncomputable def reps (n : Nat) (ss : List (List Int)) (m : Nat) : List Nat := (List.range m).filter fun w => tf (∀ v < w, ¬ Rch n ss v w)
noncomputable def lotsC (n : Nat) (ss : List (List Int)) : List (List Nat) := (reps n ss n).map (lotC n ss)
noncomputable def comN (n : Nat) (ss : List (List Int)) (ev : List Nat) : List Nat := (List.range n).filter fun v => tf (∀ x, Rch n ss v x → x ∈ ev)
theorem mem_lotC : v ∈ lotC n ss a ↔ v < n ∧ Rch n ss a v := by unfold lotC; rw [List.mem_filter, List.mem_range, tf_iff]
theorem mem_reps {m : Nat} : w ∈ reps n ss m ↔ w < m ∧ ∀ v < w, ¬ Rch n ss v w := by unfold reps; rw [List.mem_filter, List.mem_range, tf_iff]
theorem mem_comN {ev : List Nat} : v ∈ comN n ss ev ↔ v < n ∧ ∀ x, Rch n ss v x → x ∈ ev := by unfold comN; rw [List.mem_filter, List.mem_range, tf_iff]
theorem lotC_lot : Lot n (lotC n ss a) := lot_filter _ _
theorem comN_lot (ev : List Nat) : Lot n (comN n ss ev) := lot_filter _ _
/-- ascending rows with the same members are the same -/
theorem asc_unique : ∀ {xs ys : List Nat}, xs.Pairwise (· < ·) → ys.Pairwise (· < ·) → (∀ k, k ∈ xs ↔ k ∈ ys) → xs = ys
  | [], [], _, _, _ => rfl
  | [], y :: ys, _, _, h => absurd ((h y).mpr List.mem_cons_self) List.not_mem_nil
  | x :: xs, [], _, _, h => absurd ((h x).mp List.mem_cons_self) List.not_mem_nil
  | x :: xs, y :: ys, hx, hy, h => by
    rw [List.pairwise_cons] at hx hy
    have e : x = y := by
      rcases List.mem_cons.mp ((h x).mp List.mem_cons_self) with e | e
      · exact e
      · rcases List.mem_cons.mp ((h y).mpr List.mem_cons_self) with f | f
        · exact f.symm
        · have := hx.1 y f; have := hy.1 x e; omega
    subst e
    rw [asc_unique hx.2 hy.2 fun k => ⟨fun m => ?_, fun m => ?_⟩]
    · rcases List.mem_cons.mp ((h k).mp (List.mem_cons_of_mem _ m)) with e | e
      · have := hx.1 k m; omega
      · exact e
    · rcases List.mem_cons.mp ((h k).mpr (List.mem_cons_of_mem _ m)) with e | e
      · have := hy.1 k m; omega
      · exact e
/-- sorted: the ascending row of the members -/
theorem sort_ok {xs ys : List Nat} {k : List PyData → Prop} (hn : xs.Nodup) (hy : ys.Pairwise (· < ·)) (hm : ∀ v, v ∈ xs ↔ v ∈ ys) (hk : k (ys.map iD)) : sortW (xs.map iD) k := by
  refine ⟨xs.map fun x : Nat => (x : Int), by rw [List.map_map]; rfl, fun ms hp hs => ?_⟩
  have e : ms = ys.map fun x : Nat => (x : Int) := by
    have hnd : ms.Nodup := (hp.nodup_iff).mpr (hn.map _ fun a b h => by intro e; exact h (by omega))
    have hs' : ms.Pairwise (· < ·) := by
      have := hs.and hnd
      exact this.imp fun h => by have := h.1; have := h.2; omega
    refine srt_unique hs' (List.pairwise_map.mpr (hy.imp fun h => by omega)) fun k => ?_
    rw [hp.mem_iff, List.mem_map, List.mem_map]
    exact ⟨fun ⟨x, h1, h2⟩ => ⟨x, (hm x).mp h1, h2⟩, fun ⟨x, h1, h2⟩ => ⟨x, (hm x).mpr h1, h2⟩⟩
  subst e
  rw [List.map_map]
  exact hk
theorem nodup_of_asc {xs : List Nat} (h : xs.Pairwise (· < ·)) : xs.Nodup := h.imp fun h => Nat.ne_of_lt h
/-- a row without repeats of numbers below n is no longer than n -/
theorem nodup_len : ∀ (n : Nat) {xs : List Nat}, xs.Nodup → (∀ x ∈ xs, x < n) → xs.length ≤ n
  | 0, [], _, _ => Nat.le_refl _
  | 0, x :: xs, _, h => absurd (h x List.mem_cons_self) (Nat.not_lt_zero _)
  | n + 1, xs, hn, h => by
    have h1 := nodup_len n (xs := xs.erase n) (hn.erase n) fun x hx => by
      have := h x (List.mem_of_mem_erase hx)
      have : x ≠ n := fun e => (List.Nodup.not_mem_erase hn) (e ▸ hx)
      omega
    by_cases hm : n ∈ xs
    · have h2 := List.length_erase_of_mem hm
      omega
    · rw [List.erase_of_not_mem hm] at h1
      omega
/-- an ascending row within another one that is no longer is all of it -/
theorem sub_len (as bs : List Nat) (ha : as.Pairwise (· < ·)) (hb : bs.Pairwise (· < ·)) (hs : ∀ x ∈ as, x ∈ bs) (hl : bs.length ≤ as.length) : ∀ x ∈ bs, x ∈ as := by
  induction as generalizing bs with
  | nil =>
    intro x hx
    have : bs = [] := List.length_eq_zero_iff.mp (by simpa using hl)
    rw [this] at hx; exact hx
  | cons a as ih =>
    rw [List.pairwise_cons] at ha
    have hab := hs a List.mem_cons_self
    have h1 := ih (bs.erase a) ha.2 (hb.erase a) (fun x hx => by
      have hne : x ≠ a := fun e => by have := ha.1 x hx; omega
      exact (List.mem_erase_of_ne hne).mpr (hs x (List.mem_cons_of_mem _ hx))) (by rw [List.length_erase_of_mem hab]; rw [List.length_cons] at hl; omega)
    intro x hx
    by_cases e : x = a
    · rw [e]; exact List.mem_cons_self
    · exact List.mem_cons_of_mem _ (h1 x ((List.mem_erase_of_ne e).mpr hx))
theorem eqv_lots : ∀ (xs ys : List Nat), PyData.eqv (.list (xs.map iD)) (.list (ys.map iD)) = decide (xs = ys)
  | [], [] => rfl
  | [], _ :: _ => rfl
  | _ :: _, [] => rfl
  | x :: xs, y :: ys => by
    show (((x : Int) == (y : Int)) && PyData.eqv (.list (xs.map iD)) (.list (ys.map iD))) = _
    rw [eqv_lots xs ys, Bool.eq_iff_iff, Bool.and_eq_true, beq_iff_eq, decide_eq_true_eq, decide_eq_true_eq, List.cons.injEq, Int.ofNat_inj]
end
end Eh

namespace Eh
open PySem PySem.Spec PyProof.Rows L2
section
variable {rt : PyData → Prop} {rn : List PyData → Prop} {er : XP} {d e : PyData} {n w a k : Nat} {s : List Int} {ss : List (List Int)} {ev : List Nat}
theorem augN {x y : Nat} {kk : DP} (h : kk (iD (x + y))) : augW (fun i j => i + j) (iD x) (iD y) kk := h
theorem adj_part {u v : Nat} (g : GoodS n ss) (hs : s ∈ ss) (hu : u < n) (hv : v ∈ partN s u) : Adj n ss u v := by
  obtain ⟨h1, h2⟩ := mem_part.mp hv
  exact ⟨hu, by have := (g.row s hs).1; omega, s, hs, h2.symm⟩
/-- one lot, from its least world on -/
theorem grow_lot (g : GoodS n ss) (ha : a < n) (lot0 : List PyData) (hl0 : lot0 = [iD a]) {done : List PyData × PyData → Prop} (hd : ∀ xs : List Nat, xs.Nodup → (∀ v, v ∈ xs ↔ v ∈ lotC n ss a) → ∀ q, done (xs.map iD, q)) :
    whileW (σ := List PyData × PyData) (lot0, iD 0) (fun s_2 k2 => lenW s_2.1 fun t8 => ltW s_2.2 t8 fun t9 => boolW t9 fun b2 => k2 b2) (fun s_2 nx bk => seqW (toldD ss) fun l8 => forW (σ := List PyData) (fun sight s_3 nx bk => ixW s_3 s_2.2 fun t11 => W_possible sight t11 (fun t10 => seqW t10 fun l9 => lcW l9 (fun world Y N => niW world s_3 fun t12 => boolW t12 fun b3 => iteW b3 (Y world) N) fun l10 => extW s_3 l10 fun lot2 => nx lot2) er) (fun s_3 => augW (fun i j => i + j) s_2.2 (.int 1) fun at_2 => nx (s_3, at_2)) l8 s_2.1) done := by
  have n10 := g.n10
  have p4 := g.p4
  refine ⟨fun st => ∃ (xs : List Nat) (i : Nat), st = (xs.map iD, iD i) ∧ xs.Nodup ∧ (∀ v ∈ xs, v < n ∧ Rch n ss a v) ∧ a ∈ xs ∧ i ≤ xs.length ∧ ∀ j < i, ∀ u, xs[j]? = some u → ∀ v, Adj n ss u v → v ∈ xs, fun st => match st.2 with | .int i => n - i.toNat | _ => 0,
    ⟨[a], 0, by rw [hl0]; rfl, by simp, fun v hv => by rw [List.mem_singleton.mp hv]; exact ⟨ha, .refl⟩, List.mem_singleton.mpr rfl, Nat.zero_le _, fun j hj => absurd hj (Nat.not_lt_zero _)⟩, ?_⟩
  rintro st ⟨xs, i, rfl, hnd, hr, hax, hi, hcl⟩
  have hlen : xs.length ≤ n := nodup_len n hnd fun x hx => (hr x hx).1
  show iteW (decide ((i : Int) < ((xs.map iD).length : Nat))) _ _
  rw [List.length_map]
  refine ite_ok (fun hlt => ?_) fun hge => ?_
  · have hlt : i < xs.length := by have := of_decide_eq_true hlt; omega
    obtain ⟨u, hu⟩ : ∃ u, xs[i]? = some u := ⟨_, List.getElem?_eq_getElem hlt⟩
    have hun := (hr u (List.mem_of_getElem? hu)).1
    refine for_ok tupR (fun m st2 => ∃ ys : List Nat, st2 = ys.map iD ∧ ys.Nodup ∧ (∀ v ∈ ys, v < n ∧ Rch n ss a v) ∧ (∃ zs, ys = xs ++ zs) ∧ ∀ s ∈ ss.take m, ∀ v ∈ partN s u, v ∈ ys) ⟨xs, rfl, hnd, hr, ⟨[], by simp⟩, fun s hs => by simp at hs⟩ ?_ ?_
    · rintro m s st2 hs ⟨ys, rfl, hyn, hyr, ⟨zs, rfl⟩, hyc⟩ nx bk h1 h2
      have hms := List.mem_of_getElem? hs
      have hsl := (g.row s hms).1
      have hat : ((xs ++ zs).map iD)[i]? = some (iD u) := by rw [List.getElem?_map, List.getElem?_append_left hlt, hu]; rfl
      refine ix_ok hat (w_possible (.inr rfl) (by omega) (by omega) ?_)
      have hyl := nodup_len n hyn fun x hx => (hyr x hx).1
      have hpl := (partN_lot s u).len
      refine lc_ok iD iD (fun v => !decide (v ∈ xs ++ zs)) (by omega) (fun v hv Y N h3 h4 => niN_ok (ite_ok h3 h4)) ?_
      have hfl := List.length_filter_le (fun v => !decide (v ∈ xs ++ zs)) (partN s u)
      refine ⟨by rw [List.length_map, List.length_map]; omega, h1 _ ⟨(xs ++ zs) ++ (partN s u).filter (fun v => !decide (v ∈ xs ++ zs)), by simp only [List.map_append], ?_, ?_, ⟨zs ++ (partN s u).filter (fun v => !decide (v ∈ xs ++ zs)), by rw [List.append_assoc]⟩, ?_⟩⟩
      · rw [List.nodup_append]
        refine ⟨hyn, (nodup_of_asc (partN_lot s u).2).filter _, fun x hx y hy e => ?_⟩
        subst e
        have := (List.mem_filter.mp hy).2
        simp only [Bool.not_eq_true', decide_eq_false_iff_not] at this
        exact this hx
      · intro v hv
        rcases List.mem_append.mp hv with hv | hv
        · exact hyr v hv
        · have hv := (List.mem_filter.mp hv).1
          have had := adj_part g hms hun hv
          exact ⟨had.2.1, (hr u (List.mem_of_getElem? hu)).2.step had⟩
      · intro t ht v hv
        rw [List.take_add_one, hs] at ht
        rcases List.mem_append.mp ht with ht | ht
        · exact List.mem_append_left _ (hyc t ht v hv)
        · have e : t = s := by simpa using ht
          subst e
          by_cases hm : v ∈ xs ++ zs
          · exact List.mem_append_left _ hm
          · exact List.mem_append_right _ (List.mem_filter.mpr ⟨hv, by simpa using hm⟩)
    · rintro st2 ⟨ys, rfl, hyn, hyr, ⟨zs, rfl⟩, hyc⟩
      rw [List.take_length] at hyc
      refine augN (x := i) (y := 1) ⟨⟨xs ++ zs, i + 1, rfl, hyn, hyr, List.mem_append_left _ hax, by rw [List.length_append]; omega, fun j hj x hx v hv => ?_⟩, ?_⟩
      · by_cases hji : j = i
        · subst hji
          rw [List.getElem?_append_left hlt, hu] at hx
          cases hx
          obtain ⟨_, hvn, s, hs, he⟩ := hv
          exact hyc s hs v (mem_part.mpr ⟨by rw [(g.row s hs).1]; exact hvn, he.symm⟩)
        · rw [List.getElem?_append_left (by omega)] at hx
          exact List.mem_append_left _ (hcl j (by omega) x hx v hv)
      · show n - ((i + 1 : Nat) : Int).toNat < n - (i : Int).toNat
        omega
  · have hge : ¬ (i : Int) < (xs.length : Nat) := of_decide_eq_false hge
    have hi2 : i = xs.length := by omega
    subst hi2
    refine hd xs hnd (fun v => ?_) _
    rw [mem_lotC]
    refine ⟨hr v, fun ⟨_, hv⟩ => hv.closed (S := fun v => v ∈ xs) hax fun x y hx hxy => ?_⟩
    obtain ⟨j, hj⟩ := List.getElem?_of_mem hx
    exact hcl j (List.getElem?_eq_some_iff.mp hj).1 x hj y hxy
theorem reps_succ {m : Nat} : reps n ss (m + 1) = reps n ss m ++ if tf (∀ v < m, ¬ Rch n ss v m) = true then [m] else [] := by
  unfold reps
  rw [List.range_succ, List.filter_append, List.filter_cons, List.filter_nil]
/-- no least world of its lot between m and m' -/
theorem reps_skip {m : Nat} : ∀ {j : Nat}, (∀ w, m ≤ w → w < m + j → ∃ v < w, Rch n ss v w) → reps n ss (m + j) = reps n ss m
  | 0, _ => rfl
  | j + 1, h => by
    rw [show m + (j + 1) = (m + j) + 1 by omega, reps_succ, reps_skip fun w h1 h2 => h w h1 (by omega)]
    obtain ⟨v, hv, hr⟩ := h (m + j) (by omega) (by omega)
    rw [if_neg (by rw [tf_iff]; exact fun z => z v hv hr), List.append_nil]
noncomputable def leftC (n : Nat) (ss : List (List Int)) (m : Nat) : List Nat := (List.range n).filter fun v => tf (∀ r < m, ¬ Rch n ss r v)
theorem mem_leftC {m v : Nat} : v ∈ leftC n ss m ↔ v < n ∧ ∀ r < m, ¬ Rch n ss r v := by unfold leftC; rw [List.mem_filter, List.mem_range, tf_iff]
theorem reps_len (m : Nat) : (reps n ss m).length ≤ m := by
  unfold reps
  exact Nat.le_trans (List.length_filter_le _ _) (by rw [List.length_range]; exact Nat.le_refl _)
theorem w_lots_of (g : GoodS n ss) (h : rn ((lotsC n ss).map lotN)) : W_lots_of (toldD ss) rn er := by
  unfold W_lots_of
  obtain ⟨s0, h0, hl0⟩ := g.at0
  have n10 := g.n10
  refine ix_ok (n := 0) (told_at h0) ?_
  show rgLW (.int ((s0.map PyData.int).length : Nat)) _
  rw [List.length_map, hl0]
  refine rgL_ok (by omega) ⟨by simp, ?_⟩
  refine ⟨fun st => ∃ m ≤ n, st = (((reps n ss m).map (lotC n ss)).map lotN, .list ((leftC n ss m).map iD)), fun st => match st.2 with | .list xs => xs.length | _ => 0, ⟨0, Nat.zero_le _, by
    have : leftC n ss 0 = List.range n := List.filter_eq_self.mpr fun v _ => tf_iff.mpr fun r hr => absurd hr (Nat.not_lt_zero _)
    rw [this]; rfl⟩, ?_⟩
  rintro st ⟨m, hm, rfl⟩
  show iteW (decide ((0 : Int) < (((leftC n ss m).map iD).length : Nat))) _ _
  rw [List.length_map]
  refine ite_ok (fun hlt => ?_) fun hge => ?_
  · have hlt := of_decide_eq_true hlt
    cases hL : leftC n ss m with
    | nil => rw [hL] at hlt; exact absurd hlt (by decide)
    | cons a rest =>
      have ha : a ∈ leftC n ss m := by rw [hL]; exact List.mem_cons_self
      obtain ⟨han, har⟩ := mem_leftC.mp ha
      have hasc : (leftC n ss m).Pairwise (· < ·) := (pw_range n).filter _
      -- all ahead of a are in the lots found
      have hfirst : ∀ v < a, ∃ r < m, Rch n ss r v := fun v hv => Classical.byContradiction fun hno => by
        have : v ∈ leftC n ss m := mem_leftC.mpr ⟨by omega, fun r hr hrv => hno ⟨r, hr, hrv⟩⟩
        rw [hL] at this hasc
        rw [List.pairwise_cons] at hasc
        rcases List.mem_cons.mp this with e | h
        · omega
        · have := hasc.1 v h; omega
      have hma : m ≤ a := Nat.le_of_not_lt fun hlt => har a hlt .refl
      have hrep : ∀ v < a, ¬ Rch n ss v a := fun v hv hva => by
        obtain ⟨r, hr, hrv⟩ := hfirst v hv
        exact har r hr (hrv.trans hva)
      have hreps : reps n ss (a + 1) = reps n ss m ++ [a] := by
        rw [reps_succ, if_pos (tf_iff.mpr hrep)]
        congr 1
        obtain ⟨j, rfl⟩ : ∃ j, a = m + j := ⟨a - m, by omega⟩
        refine reps_skip fun w h1 h2 => ?_
        obtain ⟨r, hr, hrw⟩ := hfirst w h2
        exact ⟨r, by omega, hrw⟩
      show ixW ((a :: rest).map iD) (.int 0) _
      refine ix_ok (n := 0) rfl ⟨by simp, ?_⟩
      refine grow_lot g han _ rfl fun xs hnd hmem q => ?_
      refine sort_ok hnd lotC_lot.2 hmem ?_
      have hrl := reps_len (n := n) (ss := ss) m
      refine ⟨by rw [List.length_map, List.length_map]; omega, ?_⟩
      show lcW ((a :: rest).map iD) _ _
      rw [← hL]
      have hll : (leftC n ss m).length ≤ n := (lot_filter n _).len
      refine lc_ok iD iD (fun v => !decide (v ∈ xs)) (by omega) (fun v hv Y N h1 h2 => niN_ok (ite_ok h1 h2)) ?_
      have hnew : (leftC n ss m).filter (fun v => !decide (v ∈ xs)) = leftC n ss (a + 1) := by
        refine asc_unique (hasc.filter _) ((pw_range n).filter _) fun v => ?_
        rw [List.mem_filter, mem_leftC, mem_leftC, Bool.not_eq_true', decide_eq_false_iff_not, hmem, mem_lotC]
        constructor
        · rintro ⟨⟨h1, h2⟩, h3⟩
          refine ⟨h1, fun r hr hrv => ?_⟩
          rcases Nat.lt_or_ge r a with hra | hra
          · obtain ⟨r', hr', hrr⟩ := hfirst r hra
            exact h2 r' hr' (hrr.trans hrv)
          · have : r = a := by omega
            subst this
            exact h3 ⟨h1, hrv⟩
        · rintro ⟨h1, h2⟩
          exact ⟨⟨h1, fun r hr => h2 r (by omega)⟩, fun ⟨_, h3⟩ => h2 a (by omega) h3⟩
      refine ⟨⟨a + 1, by omega, ?_⟩, ?_⟩
      · rw [hnew, hreps, List.map_append, List.map_append]; rfl
      · show (((leftC n ss m).filter fun v => !decide (v ∈ xs)).map iD).length < ((leftC n ss m).map iD).length
        rw [List.length_map, List.length_map]
        have hax : a ∈ xs := (hmem a).mpr (mem_lotC.mpr ⟨han, .refl⟩)
        rw [hL, List.filter_cons, if_neg (by simp [hax])]
        exact Nat.lt_succ_of_le (List.length_filter_le _ _)
  · have hge := of_decide_eq_false hge
    have hnil : leftC n ss m = [] := List.length_eq_zero_iff.mp (by omega)
    have : reps n ss n = reps n ss m := by
      obtain ⟨j, rfl⟩ : ∃ j, n = m + j := ⟨n - m, by omega⟩
      refine reps_skip fun w h1 h2 => Classical.byContradiction fun hno => ?_
      have : w ∈ leftC (m + j) ss m := mem_leftC.mpr ⟨h2, fun r hr hrw => hno ⟨r, by omega, hrw⟩⟩
      rw [hnil] at this
      exact absurd this List.not_mem_nil
    show rn (((reps n ss m).map (lotC n ss)).map lotN)
    rw [← this]
    exact h
/-- each world lies in just one lot -/
theorem rep_of : ∀ {w : Nat}, w < n → ∃ r ∈ reps n ss n, Rch n ss r w := fun {w} => by
  induction w using Nat.strongRecOn with
  | ind w ih =>
    intro hw
    by_cases h : ∀ v < w, ¬ Rch n ss v w
    · exact ⟨w, mem_reps.mpr ⟨hw, h⟩, .refl⟩
    · have : ∃ v, v < w ∧ Rch n ss v w := Classical.byContradiction fun hno => h fun v hv hr => hno ⟨v, hv, hr⟩
      obtain ⟨v, hv, hr⟩ := this
      obtain ⟨r, h1, h2⟩ := ih v hv (by omega)
      exact ⟨r, h1, h2.trans hr⟩
theorem lots_disj {r r' : Nat} (h : r ∈ reps n ss n) (h' : r' ∈ reps n ss n) (h1 : Rch n ss r w) (h2 : Rch n ss r' w) : r = r' := by
  have a := (mem_reps.mp h).2
  have b := (mem_reps.mp h').2
  rcases Nat.lt_trichotomy r r' with hlt | he | hlt
  · exact absurd (h1.trans h2.symm) (b r hlt)
  · exact he
  · exact absurd (h2.trans h1.symm) (a r' hlt)
end
end Eh

namespace Eh
open PySem PySem.Spec PyProof.Rows L2
section
variable {rt : PyData → Prop} {rn : List PyData → Prop} {er : XP} {d e : PyData} {n w a k : Nat} {s : List Int} {ss : List (List Int)} {ev : List Nat}
theorem lc2Go_ok {α β : Type} {enc : α → PyData} {encB : β → PyData} {f : β → PyData} {L : α → List β} {q : α → Bool} {p : α → β → Bool} {body : PyData → In2 → Prop → Prop} : ∀ {xs : List α} {k : List PyData → Prop},
    (∀ x ∈ xs, (L x).length ≤ 1000) → (∀ x ∈ xs, ∀ Y N, (q x = true → ∀ b2, (∀ y ∈ L x, ∀ Y1 N1, (p x y = true → Y1 (f y)) → (p x y = false → N1) → b2 (encB y) Y1 N1) → Y ((L x).map encB) b2) → (q x = false → N) → body (enc x) Y N) →
    k (((xs.filter q).map fun x => ((L x).filter (p x)).map f).flatten) → lc2Go body (xs.map enc) k
  | [], k, _, _, hk => hk
  | x :: xs, k, hz, hb, hk => by
    refine hb x List.mem_cons_self _ _ (fun hq b2 h2 => ⟨by rw [List.length_map]; exact hz x List.mem_cons_self, lcGo_ok h2 ?_⟩) fun hq => ?_
    · refine lc2Go_ok (fun y hy => hz y (List.mem_cons_of_mem _ hy)) (fun y hy => hb y (List.mem_cons_of_mem _ hy)) ?_
      rw [List.filter_cons, if_pos hq, List.map_cons, List.flatten_cons] at hk; exact hk
    · refine lc2Go_ok (fun y hy => hz y (List.mem_cons_of_mem _ hy)) (fun y hy => hb y (List.mem_cons_of_mem _ hy)) ?_
      rw [List.filter_cons, if_neg (by rw [hq]; exact Bool.false_ne_true)] at hk; exact hk
/-- [x for l in ls for x in l] -/
theorem lc2_flat {α : Type} {ls : List α} {L : α → List Nat} {enc : α → PyData} {body : PyData → In2 → Prop → Prop} {k : List PyData → Prop} (h1 : ls.length ≤ 100) (h2 : ∀ l ∈ ls, (L l).length ≤ 1000)
    (hb : ∀ x ∈ ls, ∀ Y N, (∀ b2, (∀ y : Nat, ∀ (Y1 : DP) N1, Y1 (iD y) → b2 (iD y) Y1 N1) → Y ((L x).map iD) b2) → body (enc x) Y N) (hk : k ((ls.map L).flatten.map iD)) : lc2W (ls.map enc) body k := by
  refine ⟨by rw [List.length_map]; exact h1, lc2Go_ok (L := L) (encB := iD) (f := iD) (q := fun _ => true) (p := fun _ _ => true) h2 (fun x hx Y N hY _ => hb x hx Y N fun b2 h => hY rfl b2 fun y _ Y1 N1 h3 _ => h y Y1 N1 (h3 rfl)) ?_⟩
  have e : ((ls.filter fun _ => true).map fun x => ((L x).filter fun _ => true).map iD).flatten = (ls.map L).flatten.map iD := by
    rw [List.filter_eq_self.mpr fun _ _ => rfl, List.map_flatten, List.map_map]
    congr 1
    refine List.map_congr_left fun x _ => ?_
    rw [List.filter_eq_self.mpr fun _ _ => rfl]; rfl
  rw [e]; exact hk
theorem lotsC_len : (lotsC n ss).length ≤ n := by unfold lotsC; rw [List.length_map]; exact reps_len n
theorem w_common_worlds (g : GoodS n ss) (he : LotD ev e) (h : rt (lotN (comN n ss ev))) : W_common_worlds (toldD ss) e rt er := by
  unfold W_common_worlds
  have n10 := g.n10
  have hl := lotsC_len (n := n) (ss := ss)
  have hle : ∀ l ∈ lotsC n ss, l.length ≤ n := fun l hl => by
    obtain ⟨r, _, rfl⟩ := List.mem_map.mp hl
    exact lotC_lot.len
  refine w_lots_of g (lc_ok lotN lotN (fun l => l.all fun v => decide (v ∈ ev)) (by omega) (fun l hl' Y N h1 h2 => ?_) ?_)
  · exact lcM_ok iD (fun v => .bool (decide (v ∈ ev))) (by have := hle l hl'; omega) (fun v hv Y hY => he.seq (inN_ok hY)) (all_ok (ite_ok h1 h2))
  have hfl := List.length_filter_le (fun l : List Nat => l.all fun v => decide (v ∈ ev)) (lotsC n ss)
  show lc2W (((lotsC n ss).filter _).map lotN) _ _
  refine lc2_flat (ls := (lotsC n ss).filter fun l => l.all fun v => decide (v ∈ ev)) (L := id) (enc := lotN) (by omega) (fun l hl' => by have := hle l (List.mem_filter.mp hl').1; exact Nat.le_trans this (by omega)) (fun l hl' Y N hY => ?_) ?_
  · exact hY _ fun y Y1 N1 h1 => h1
  rw [List.map_id]
  refine sort_ok ?_ (comN_lot ev).2 (fun v => ?_) h
  · rw [List.Nodup, List.pairwise_flatten]
    refine ⟨fun l hl' => ?_, ?_⟩
    · obtain ⟨r, _, rfl⟩ := List.mem_map.mp (List.mem_filter.mp hl').1
      exact nodup_of_asc lotC_lot.2
    · refine List.Pairwise.filter _ ?_
      unfold lotsC
      rw [List.pairwise_map]
      have hasc : (reps n ss n).Pairwise (· < ·) := (pw_range n).filter _
      refine hasc.imp_of_mem fun {r r'} hr hr' hlt v hv v' hv' e => ?_
      subst e
      have := lots_disj hr hr' (mem_lotC.mp hv).2 (mem_lotC.mp hv').2
      omega
  · rw [List.mem_flatten, mem_comN]
    constructor
    · rintro ⟨l, hl', hv⟩
      obtain ⟨h1, h2⟩ := List.mem_filter.mp hl'
      obtain ⟨r, hr, rfl⟩ := List.mem_map.mp h1
      obtain ⟨hvn, hrv⟩ := mem_lotC.mp hv
      rw [List.all_eq_true] at h2
      exact ⟨hvn, fun x hx => of_decide_eq_true (h2 x (mem_lotC.mpr ⟨hx.lt hvn, hrv.trans hx⟩))⟩
    · rintro ⟨hvn, hx⟩
      obtain ⟨r, hr, hrv⟩ := rep_of (ss := ss) hvn
      exact ⟨lotC n ss r, List.mem_filter.mpr ⟨List.mem_map.mpr ⟨r, hr, rfl⟩, List.all_eq_true.mpr fun x hx' => decide_eq_true (hx x (hrv.symm.trans (mem_lotC.mp hx').2))⟩, mem_lotC.mpr ⟨hvn, hrv⟩⟩
theorem w_everybody (g : GoodS n ss) (hh : Handed ss d) (he : Lot n ev) (h : rt (lotN (allKnowN n ss ev))) : W_everybody_knows d (lotN ev) rt er := by
  unfold W_everybody_knows
  refine w_check_handed g hh (w_check_event g (fun _ => ?_) fun e => by rw [he.b] at e; cases e)
  exact w_known_by_all g (.inl rfl) h
theorem w_common (g : GoodS n ss) (hh : Handed ss d) (he : Lot n ev) (h : rt (lotN (comN n ss ev))) : W_common d (lotN ev) rt er := by
  unfold W_common
  refine w_check_handed g hh (w_check_event g (fun _ => ?_) fun e => by rw [he.b] at e; cases e)
  exact w_common_worlds g (.inl rfl) h
theorem w_meet (g : GoodS n ss) (hh : Handed ss d) (h : rt (.tuple ((lotsC n ss).map lotN))) : W_meet d rt er := by
  unfold W_meet
  exact w_check_handed g hh (w_lots_of g h)
/-! the law's own reckoning of what one, what all know -/
theorem w_within {xs : List Nat} (he : LotD ev e) (hz : xs.length ≤ 100000) (h : rt (.bool (xs.all fun u => decide (u ∈ ev)))) : W__law_within (.list (xs.map iD)) e rt er := by
  unfold W__law_within
  refine lc_ok iD iD (fun u => !decide (u ∈ ev)) hz (fun u hu Y N h1 h2 => he.seq (niN_ok (ite_ok h1 h2))) ⟨by simp, eqNil_ok ?_⟩
  rw [filter_empty]; exact h
theorem w_law_knows (hr : RowD s d) (he : LotD ev e) (hz : s.length ≤ 100000) (h : rn ((knownN s ev).map iD)) : W__law_knows d e rn er := by
  unfold W__law_knows
  refine hr.seq ?_
  show rngW (.int ((s.map PyData.int).length : Nat)) _
  rw [List.length_map]
  refine rng_ok hz (lc_ok iD iD (fun w => (partN s w).all fun u => decide (u ∈ ev)) (by simpa using hz) (fun w hw Y N h1 h2 => ?_) h)
  exact w_part hr (List.mem_range.mp hw) hz (w_within he (Nat.le_trans (partN_lot s w).len hz) (ite_ok h1 h2))
theorem w_law_all (g : GoodS n ss) (he : LotD ev e) (h : rt (.list ((allKnowN n ss ev).map iD))) : W__law_all_know (.list (ss.map lstR)) e rt er := by
  unfold W__law_all_know
  obtain ⟨s0, h0, hl0⟩ := g.at0
  have n10 := g.n10
  refine ix_ok (n := 0) (rows_at h0) ?_
  show rgLW (.int ((s0.map PyData.int).length : Nat)) _
  rw [List.length_map, hl0]
  refine rgL_ok (by omega) (for_ok lstR (fun i st => st = .list (((List.range n).filter fun w => (ss.take i).all fun s => decide (w ∈ knownN s ev)).map iD)) ?_ ?_ ?_)
  · show _ = PyData.list _
    rw [List.filter_eq_self.mpr fun _ _ => by simp]
  · rintro i s st hs rfl nx bk h1 h2
    have hl := (g.row s (List.mem_of_getElem? hs)).1
    refine w_law_knows (.inl rfl) he (by rw [hl]; omega) ?_
    refine lc_ok iD iD (fun w => decide (w ∈ knownN s ev)) ?_ (fun u hu Y N h3 h4 => inN_ok (ite_ok h3 h4)) (h1 _ ?_)
    · exact Nat.le_trans (List.length_filter_le _ _) (by simp; omega)
    · rw [List.filter_filter, List.take_add_one, hs]
      congr 2
      refine List.filter_congr fun w hw => ?_
      rw [List.all_append, Bool.and_comm]
      show _ = (_ && ([s].all fun s => decide (w ∈ knownN s ev)))
      rw [List.all_cons, List.all_nil, Bool.and_true]
  · rintro st rfl
    rw [List.take_length]; exact h
/-! what is common, by steps -/
theorem mem_known {v : Nat} : v ∈ knownN s ev ↔ v < s.length ∧ ∀ u ∈ partN s v, u ∈ ev := by
  unfold knownN
  rw [List.mem_filter, List.mem_range, List.all_eq_true]
  simp
theorem mem_allKnow (g : GoodS n ss) {v : Nat} : v ∈ allKnowN n ss ev ↔ v < n ∧ ∀ u, Adj n ss v u → u ∈ ev := by
  unfold allKnowN
  rw [List.mem_filter, List.mem_range, List.all_eq_true]
  constructor
  · rintro ⟨h1, h2⟩
    refine ⟨h1, fun u ⟨_, hu, s, hs, he⟩ => ?_⟩
    have := of_decide_eq_true (h2 s hs)
    exact (mem_known.mp this).2 u (mem_part.mpr ⟨by rw [(g.row s hs).1]; exact hu, he.symm⟩)
  · rintro ⟨h1, h2⟩
    refine ⟨h1, fun s hs => decide_eq_true (mem_known.mpr ⟨by rw [(g.row s hs).1]; exact h1, fun u hu => h2 u (adj_part g hs h1 hu)⟩)⟩
theorem adj_self (g : GoodS n ss) {v : Nat} (h : v < n) : Adj n ss v v := by
  obtain ⟨s0, h0, _⟩ := g.at0
  exact ⟨h, h, s0, List.mem_of_getElem? h0, rfl⟩
theorem allKnow_sub (g : GoodS n ss) {v : Nat} (h : v ∈ allKnowN n ss ev) : v ∈ ev := by
  obtain ⟨h1, h2⟩ := (mem_allKnow g).mp h
  exact h2 v (adj_self g h1)
theorem com_sub {v : Nat} (h : v ∈ comN n ss ev) : v ∈ ev := (mem_comN.mp h).2 v .refl
/-- what is common is known to all to be so -/
theorem com_allKnow (g : GoodS n ss) : allKnowN n ss (comN n ss ev) = comN n ss ev := asc_unique (allKnowN_lot n ss _).2 (comN_lot ev).2 fun v => by
  constructor
  · exact allKnow_sub g
  · intro h
    obtain ⟨h1, h2⟩ := mem_comN.mp h
    exact (mem_allKnow g).mpr ⟨h1, fun u hu => mem_comN.mpr ⟨hu.2.1, fun x hx => h2 x ((Rch.refl.step hu).trans hx)⟩⟩
theorem com_le (g : GoodS n ss) {X : List Nat} (h : ∀ v ∈ comN n ss ev, v ∈ X) : ∀ v ∈ comN n ss ev, v ∈ allKnowN n ss X := fun v hv => by
  obtain ⟨h1, h2⟩ := mem_comN.mp hv
  exact (mem_allKnow g).mpr ⟨h1, fun u hu => h u (mem_comN.mpr ⟨hu.2.1, fun x hx => h2 x ((Rch.refl.step hu).trans hx)⟩)⟩
/-- what stays under a step, lies in the event and holds what is common, is what is common -/
theorem com_fix (g : GoodS n ss) {X : List Nat} (hX : Lot n X) (h1 : allKnowN n ss X = X) (h2 : ∀ v ∈ X, v ∈ ev) (h3 : ∀ v ∈ comN n ss ev, v ∈ X) : X = comN n ss ev := asc_unique hX.2 (comN_lot ev).2 fun v => by
  refine ⟨fun hv => mem_comN.mpr ⟨hX.1 v hv, fun x hx => h2 x (hx.closed (S := fun x => x ∈ X) hv fun y z hy hyz => ?_)⟩, h3 v⟩
  rw [← h1] at hy
  exact ((mem_allKnow g).mp hy).2 z hyz
end
end Eh

/-! what a text answers at given data, reckoned: for each op of the readings its reckoned twin (..B) and what the twin's yes tells of the op (..K) -/
namespace Eh
open PySem PySem.Spec PyProof.Rows L2
abbrev XB := Str → Option (List (Str × V)) → Bool
abbrev DB := PyData → Bool
def noB : XB := fun _ _ => false
theorem noK : ∀ n f, noB n f = true → noX n f := fun _ _ h => nomatch h
def bnd {α : Type} (o : Option α) (k : α → Bool) : Bool := match o with | some a => k a | none => false
theorem bndK {α : Type} {o : Option α} {kb : α → Bool} {p : Prop} {k : α → Prop} (hv : ∀ a, o = some a → k a → p) (h : bnd o kb = true) (hk : ∀ a, kb a = true → k a) : p := by
  cases o with
  | none => cases h
  | some a => exact hv a rfl (hk a h)
def iff' {α : Type} (c : Prop) [Decidable c] (a : α) : Option α := if c then some a else none
theorem iff'_ok {α : Type} {c : Prop} [Decidable c] {a b : α} (h : iff' c a = some b) : c ∧ b = a := by
  unfold iff' at h
  split at h
  · rename_i hc; exact ⟨hc, (Option.some.inj h).symm⟩
  · cases h
section
variable {α β σ : Type} {k : DP} {kb : DB} {kl : List PyData → Prop} {kbl : List PyData → Bool} {x y : PyData} {xs ys : List PyData}
/-! parts -/
def intO : PyData → Option Int | .int i => some i | _ => none
def boolO : PyData → Option Bool | .bool i => some i | _ => none
def seqO : PyData → Option (List PyData) | .list xs => some xs | .tuple xs => some xs | _ => none
def lstO : PyData → Option (List PyData) | .list xs => some xs | _ => none
abbrev intB (d : PyData) (k : Int → Bool) : Bool := bnd (intO d) k
abbrev boolB (d : PyData) (k : Bool → Bool) : Bool := bnd (boolO d) k
abbrev seqB (d : PyData) (k : List PyData → Bool) : Bool := bnd (seqO d) k
abbrev lstB (d : PyData) (k : List PyData → Bool) : Bool := bnd (lstO d) k
theorem intK {kb : Int → Bool} {k : Int → Prop} (h : intB x kb = true) (hk : ∀ a, kb a = true → k a) : intW x k := bndK (fun a e hh => by cases x <;> cases e; exact hh) h hk
theorem boolK {kb : Bool → Bool} {k : Bool → Prop} (h : boolB x kb = true) (hk : ∀ a, kb a = true → k a) : boolW x k := bndK (fun a e hh => by cases x <;> cases e; exact hh) h hk
theorem seqK (h : seqB x kbl = true) (hk : ∀ a, kbl a = true → kl a) : seqW x kl := bndK (fun a e hh => by cases x <;> cases e <;> exact hh) h hk
theorem lstK (h : lstB x kbl = true) (hk : ∀ a, kbl a = true → kl a) : lstW x kl := bndK (fun a e hh => by cases x <;> cases e; exact hh) h hk
/-! two numbers -/
abbrev OpO := PyData → PyData → Option PyData
def int2 (f : Int → Int → Option PyData) : OpO := fun x y => match x, y with | .int i, .int j => f i j | _, _ => none
theorem int2_ok {f : Int → Int → Option PyData} {d : PyData} (h : int2 f x y = some d) : ∃ i j, x = .int i ∧ y = .int j ∧ f i j = some d := by
  unfold int2 at h
  split at h
  · exact ⟨_, _, rfl, rfl, h⟩
  · cases h
abbrev opB (o : OpO) (x y : PyData) (k : DB) : Bool := bnd (o x y) k
def subO : OpO := int2 fun i j => some (.int (i - j))
def modO : OpO := int2 fun i j => iff' (0 < j) (.int (i % j))
def divO : OpO := int2 fun i j => iff' (0 < j ∧ j < 1073741824) (.int (i / j))
def powO : OpO := int2 fun i j => iff' (0 ≤ j ∧ j ≤ 1000000 ∧ i.natAbs < 2 ^ 64) (.int (i ^ j.toNat))
def shlO : OpO := int2 fun i j => iff' (0 ≤ j ∧ j ≤ 1000000 ∧ i.natAbs < 2 ^ 64) (.int (i * 2 ^ j.toNat))
def shrO : OpO := int2 fun i j => iff' (0 ≤ j) (.int (i / 2 ^ j.toNat))
def mulO : OpO := int2 fun i j => iff' ((-(2 ^ 64) < i ∧ i < 2 ^ 64) ∨ (-(2 ^ 64) < j ∧ j < 2 ^ 64)) (.int (i * j))
def bandO : OpO := int2 fun i j => some (.int (Builtin.bitAnd i j))
def borO : OpO := int2 fun i j => some (.int (Builtin.bitOr i j))
def bxorO : OpO := int2 fun i j => some (.int (Builtin.bitXor i j))
def ltO : OpO := int2 fun i j => some (.bool (decide (i < j)))
def leO : OpO := int2 fun i j => some (.bool (decide (i ≤ j)))
def gtO : OpO := int2 fun i j => some (.bool (decide (j < i)))
def geO : OpO := int2 fun i j => some (.bool (decide (j ≤ i)))
def min2O : OpO := int2 fun i j => some (.int (if j < i then j else i))
def max2O : OpO := int2 fun i j => some (.int (if j > i then j else i))
def addO : OpO := fun x y => match x, y with
  | .int i, .int j => some (.int (i + j)) | .tuple xs, .tuple ys => iff' (xs.length + ys.length ≤ 100000) (.tuple (xs ++ ys))
  | .list xs, .list ys => iff' (xs.length + ys.length ≤ 100000) (.list (xs ++ ys)) | _, _ => none
def eqO : OpO := fun x y => iff' (SeqAt.shaped x = true ∧ SeqAt.shaped y = true) (.bool (PyData.eqv x y))
def neO : OpO := fun x y => iff' (SeqAt.shaped x = true ∧ SeqAt.shaped y = true) (.bool (!PyData.eqv x y))
abbrev subB := opB subO
abbrev modB := opB modO
abbrev divB := opB divO
abbrev powB := opB powO
abbrev shlB := opB shlO
abbrev shrB := opB shrO
abbrev mulB := opB mulO
abbrev bandB := opB bandO
abbrev borB := opB borO
abbrev bxorB := opB bxorO
abbrev ltB := opB ltO
abbrev leB := opB leO
abbrev gtB := opB gtO
abbrev geB := opB geO
abbrev min2B := opB min2O
abbrev max2B := opB max2O
abbrev addB := opB addO
abbrev eqB := opB eqO
abbrev neB := opB neO
/-- an op's twin tells of it -/
def Tw2 (o : OpO) (m : OpW) : Prop := ∀ x y d (k : DP), o x y = some d → k d → m x y k
theorem Tw2.go {o : OpO} {m : OpW} (t : Tw2 o m) (h : opB o x y kb = true) (hk : ∀ a, kb a = true → k a) : m x y k := bndK (fun a e hh => t x y a k e hh) h hk
theorem t_int2 {f : Int → Int → Option PyData} {m : OpW} (h : ∀ i j d (k : DP), f i j = some d → k d → m (.int i) (.int j) k) : Tw2 (int2 f) m := fun x y d k e hk => by
  obtain ⟨i, j, rfl, rfl, e⟩ := int2_ok e
  exact h i j d k e hk
theorem t_some {f : Int → Int → PyData} {m : OpW} (h : ∀ i j (k : DP), k (f i j) → m (.int i) (.int j) k) : Tw2 (int2 fun i j => some (f i j)) m := t_int2 fun i j d k e hk => h i j k (by cases e; exact hk)
theorem t_iff {c : Int → Int → Prop} [∀ i j, Decidable (c i j)] {f : Int → Int → PyData} {m : OpW} (h : ∀ i j (k : DP), c i j → k (f i j) → m (.int i) (.int j) k) : Tw2 (int2 fun i j => iff' (c i j) (f i j)) m := t_int2 fun i j d k e hk => by
  obtain ⟨hc, rfl⟩ := iff'_ok e
  exact h i j k hc hk
theorem subT : Tw2 subO subW := t_some fun _ _ _ h => h
theorem modT : Tw2 modO modW := t_iff fun _ _ _ c h => ⟨c, h⟩
theorem divT : Tw2 divO divW := t_iff fun _ _ _ c h => ⟨c, h⟩
theorem powT : Tw2 powO powW := t_iff fun _ _ _ c h => ⟨c, h⟩
theorem shlT : Tw2 shlO shlW := t_iff fun _ _ _ c h => ⟨c, h⟩
theorem shrT : Tw2 shrO shrW := t_iff fun _ _ _ c h => ⟨c, h⟩
theorem mulT : Tw2 mulO mulW := t_iff fun _ _ _ c h => ⟨c, h⟩
theorem bandT : Tw2 bandO bandW := t_some fun _ _ _ h => h
theorem borT : Tw2 borO borW := t_some fun _ _ _ h => h
theorem bxorT : Tw2 bxorO bxorW := t_some fun _ _ _ h => h
theorem ltT : Tw2 ltO ltW := t_some fun _ _ _ h => h
theorem leT : Tw2 leO leW := t_some fun _ _ _ h => h
theorem gtT : Tw2 gtO gtW := t_some fun _ _ _ h => h
theorem geT : Tw2 geO geW := t_some fun _ _ _ h => h
theorem min2T : Tw2 min2O min2W := t_some fun _ _ _ h => h
theorem max2T : Tw2 max2O max2W := t_some fun _ _ _ h => h
theorem eqT : Tw2 eqO eqW := fun x y d k e hk => by obtain ⟨⟨h1, h2⟩, rfl⟩ := iff'_ok e; exact ⟨h1, h2, hk⟩
theorem neT : Tw2 neO neW := fun x y d k e hk => by obtain ⟨⟨h1, h2⟩, rfl⟩ := iff'_ok e; exact ⟨h1, h2, hk⟩
theorem addT : Tw2 addO addW := fun x y d k e hk => by
  unfold addO at e
  split at e
  · cases e; exact hk
  · obtain ⟨h, rfl⟩ := iff'_ok e; exact ⟨h, hk⟩
  · obtain ⟨h, rfl⟩ := iff'_ok e; exact ⟨h, hk⟩
  · cases e
theorem subK (h : subB x y kb = true) (hk : ∀ a, kb a = true → k a) : subW x y k := subT.go h hk
theorem modK (h : modB x y kb = true) (hk : ∀ a, kb a = true → k a) : modW x y k := modT.go h hk
theorem divK (h : divB x y kb = true) (hk : ∀ a, kb a = true → k a) : divW x y k := divT.go h hk
theorem powK (h : powB x y kb = true) (hk : ∀ a, kb a = true → k a) : powW x y k := powT.go h hk
theorem shlK (h : shlB x y kb = true) (hk : ∀ a, kb a = true → k a) : shlW x y k := shlT.go h hk
theorem shrK (h : shrB x y kb = true) (hk : ∀ a, kb a = true → k a) : shrW x y k := shrT.go h hk
theorem mulK (h : mulB x y kb = true) (hk : ∀ a, kb a = true → k a) : mulW x y k := mulT.go h hk
theorem bandK (h : bandB x y kb = true) (hk : ∀ a, kb a = true → k a) : bandW x y k := bandT.go h hk
theorem borK (h : borB x y kb = true) (hk : ∀ a, kb a = true → k a) : borW x y k := borT.go h hk
theorem bxorK (h : bxorB x y kb = true) (hk : ∀ a, kb a = true → k a) : bxorW x y k := bxorT.go h hk
theorem ltK (h : ltB x y kb = true) (hk : ∀ a, kb a = true → k a) : ltW x y k := ltT.go h hk
theorem leK (h : leB x y kb = true) (hk : ∀ a, kb a = true → k a) : leW x y k := leT.go h hk
theorem gtK (h : gtB x y kb = true) (hk : ∀ a, kb a = true → k a) : gtW x y k := gtT.go h hk
theorem geK (h : geB x y kb = true) (hk : ∀ a, kb a = true → k a) : geW x y k := geT.go h hk
theorem min2K (h : min2B x y kb = true) (hk : ∀ a, kb a = true → k a) : min2W x y k := min2T.go h hk
theorem max2K (h : max2B x y kb = true) (hk : ∀ a, kb a = true → k a) : max2W x y k := max2T.go h hk
theorem addK (h : addB x y kb = true) (hk : ∀ a, kb a = true → k a) : addW x y k := addT.go h hk
theorem eqK (h : eqB x y kb = true) (hk : ∀ a, kb a = true → k a) : eqW x y k := eqT.go h hk
theorem neK (h : neB x y kb = true) (hk : ∀ a, kb a = true → k a) : neW x y k := neT.go h hk
/-! one thing -/
abbrev isNB (x : PyData) (k : DB) : Bool := k (.bool (isNon x))
abbrev notNB (x : PyData) (k : DB) : Bool := k (.bool (!isNon x))
abbrev isIntB (x : PyData) (k : DB) : Bool := k (.bool (isIntD x || isBlD x))
abbrev isBlB (x : PyData) (k : DB) : Bool := k (.bool (isBlD x))
abbrev isStrB (x : PyData) (k : DB) : Bool := k (.bool (isStrD x))
abbrev isLstB (x : PyData) (k : DB) : Bool := k (.bool (isLstD x))
abbrev isTupB (x : PyData) (k : DB) : Bool := k (.bool (isTupD x))
abbrev isLTB (x : PyData) (k : DB) : Bool := k (.bool (isLstD x || isTupD x))
theorem isNK (h : isNB x kb = true) (hk : ∀ a, kb a = true → k a) : isNW x k := hk _ h
theorem notNK (h : notNB x kb = true) (hk : ∀ a, kb a = true → k a) : notNW x k := hk _ h
theorem isIntK (h : isIntB x kb = true) (hk : ∀ a, kb a = true → k a) : isIntW x k := hk _ h
theorem isBlK (h : isBlB x kb = true) (hk : ∀ a, kb a = true → k a) : isBlW x k := hk _ h
theorem isStrK (h : isStrB x kb = true) (hk : ∀ a, kb a = true → k a) : isStrW x k := hk _ h
theorem isLstK (h : isLstB x kb = true) (hk : ∀ a, kb a = true → k a) : isLstW x k := hk _ h
theorem isTupK (h : isTupB x kb = true) (hk : ∀ a, kb a = true → k a) : isTupW x k := hk _ h
theorem isLTK (h : isLTB x kb = true) (hk : ∀ a, kb a = true → k a) : isLTW x k := hk _ h
def negO : PyData → Option PyData | .int i => some (.int (-i)) | _ => none
def notO : PyData → Option PyData | .bool b => some (.bool (!b)) | _ => none
def cintO : PyData → Option PyData | .int i => some (.int i) | .bool b => some (.int (if b then 1 else 0)) | _ => none
def absO : PyData → Option PyData | .int i => some (.int (if i < 0 then -i else i)) | _ => none
abbrev negB (x : PyData) (k : DB) : Bool := bnd (negO x) k
abbrev notB (x : PyData) (k : DB) : Bool := bnd (notO x) k
abbrev cintB (x : PyData) (k : DB) : Bool := bnd (cintO x) k
abbrev absB (x : PyData) (k : DB) : Bool := bnd (absO x) k
theorem negK (h : negB x kb = true) (hk : ∀ a, kb a = true → k a) : negW x k := bndK (fun a e hh => by cases x <;> cases e; exact hh) h hk
theorem notK (h : notB x kb = true) (hk : ∀ a, kb a = true → k a) : notW x k := bndK (fun a e hh => by cases x <;> cases e; exact hh) h hk
theorem cintK (h : cintB x kb = true) (hk : ∀ a, kb a = true → k a) : cintW x k := bndK (fun a e hh => by cases x <;> cases e <;> exact hh) h hk
theorem absK (h : absB x kb = true) (hk : ∀ a, kb a = true → k a) : absW x k := bndK (fun a e hh => by cases x <;> cases e; exact hh) h hk
/-! rows -/
def inO (x : PyData) (ys : List PyData) : Option PyData := iff' (flatD x = true ∧ ys.all flatD = true) (.bool (ys.any fun z => PyData.eqv z x))
def niO (x : PyData) (ys : List PyData) : Option PyData := iff' (flatD x = true ∧ ys.all flatD = true) (.bool (!ys.any fun z => PyData.eqv z x))
def inLO (x y : PyData) : Option PyData := match y with | .list ds => iff' (SeqAt.shaped x = true ∧ SeqAt.shaped (.list ds) = true) (.bool (ds.any fun z => PyData.eqv z x)) | _ => none
def niLO (x y : PyData) : Option PyData := match y with | .list ds => iff' (SeqAt.shaped x = true ∧ SeqAt.shaped (.list ds) = true) (.bool (!ds.any fun z => PyData.eqv z x)) | _ => none
abbrev inB (x : PyData) (ys : List PyData) (k : DB) : Bool := bnd (inO x ys) k
abbrev niB (x : PyData) (ys : List PyData) (k : DB) : Bool := bnd (niO x ys) k
abbrev inLB (x y : PyData) (k : DB) : Bool := bnd (inLO x y) k
abbrev niLB (x y : PyData) (k : DB) : Bool := bnd (niLO x y) k
theorem inK (h : inB x ys kb = true) (hk : ∀ a, kb a = true → k a) : inW x ys k := bndK (fun a e hh => by obtain ⟨⟨h1, h2⟩, rfl⟩ := iff'_ok e; exact ⟨h1, h2, hh⟩) h hk
theorem niK (h : niB x ys kb = true) (hk : ∀ a, kb a = true → k a) : niW x ys k := bndK (fun a e hh => by obtain ⟨⟨h1, h2⟩, rfl⟩ := iff'_ok e; exact ⟨h1, h2, hh⟩) h hk
theorem inLK (h : inLB x y kb = true) (hk : ∀ a, kb a = true → k a) : inLW x y k := bndK (fun a e hh => by
  cases y <;> first | (obtain ⟨⟨h1, h2⟩, rfl⟩ := iff'_ok e; exact ⟨h1, h2, hh⟩) | cases e) h hk
theorem niLK (h : niLB x y kb = true) (hk : ∀ a, kb a = true → k a) : niLW x y k := bndK (fun a e hh => by
  cases y <;> first | (obtain ⟨⟨h1, h2⟩, rfl⟩ := iff'_ok e; exact ⟨h1, h2, hh⟩) | cases e) h hk
def ixO (xs : List PyData) (i : PyData) : Option PyData := match i with | .int n => atI xs n | _ => none
abbrev ixB (xs : List PyData) (i : PyData) (k : DB) : Bool := bnd (ixO xs i) k
theorem ixK (h : ixB xs y kb = true) (hk : ∀ a, kb a = true → k a) : ixW xs y k := bndK (fun a e hh => by
  cases y <;> first | exact ⟨a, e, hh⟩ | cases e) h hk
abbrev lenB (xs : List PyData) (k : DB) : Bool := k (.int xs.length)
theorem lenK (h : lenB xs kb = true) (hk : ∀ a, kb a = true → k a) : lenW xs k := hk _ h
def intsO : List PyData → Option (List Int) | [] => some [] | .int i :: r => (intsO r).map (i :: ·) | _ :: _ => none
theorem intsO_ok : ∀ {xs : List PyData} {ns : List Int}, intsO xs = some ns → xs = ns.map .int
  | [], ns, e => by cases e; rfl
  | x :: r, ns, e => by
    cases x with
    | int i =>
      have e' : (intsO r).map (i :: ·) = some ns := e
      cases q : intsO r with
      | none => rw [q] at e'; cases e'
      | some ms => rw [q] at e'; cases e'; rw [intsO_ok q]; rfl
    | _ => cases e
def blsO : List PyData → Option (List Bool) | [] => some [] | .bool i :: r => (blsO r).map (i :: ·) | _ :: _ => none
theorem blsO_ok : ∀ {xs : List PyData} {ns : List Bool}, blsO xs = some ns → xs = ns.map .bool
  | [], ns, e => by cases e; rfl
  | x :: r, ns, e => by
    cases x with
    | bool i =>
      have e' : (blsO r).map (i :: ·) = some ns := e
      cases q : blsO r with
      | none => rw [q] at e'; cases e'
      | some ms => rw [q] at e'; cases e'; rw [blsO_ok q]; rfl
    | _ => cases e
abbrev sumB (xs : List PyData) (k : DB) : Bool := bnd (intsO xs) fun ns => k (.int ns.sum)
abbrev allB (xs : List PyData) (k : DB) : Bool := bnd (blsO xs) fun bs => k (.bool (bs.all id))
abbrev anyB (xs : List PyData) (k : DB) : Bool := bnd (blsO xs) fun bs => k (.bool (bs.any id))
theorem sumK (h : sumB xs kb = true) (hk : ∀ a, kb a = true → k a) : sumW xs k := bndK (k := fun ns : List Int => k (.int ns.sum)) (fun a e hh => ⟨a, intsO_ok e, hh⟩) h fun a => hk _
theorem allK (h : allB xs kb = true) (hk : ∀ a, kb a = true → k a) : allW xs k := bndK (k := fun ns : List Bool => k (.bool (ns.all id))) (fun a e hh => ⟨a, blsO_ok e, hh⟩) h fun a => hk _
theorem anyK (h : anyB xs kb = true) (hk : ∀ a, kb a = true → k a) : anyW xs k := bndK (k := fun ns : List Bool => k (.bool (ns.any id))) (fun a e hh => ⟨a, blsO_ok e, hh⟩) h fun a => hk _
def leastI : List Int → Option Int | [] => none | x :: r => some (r.foldl (fun a b => if b < a then b else a) x)
def mostI : List Int → Option Int | [] => none | x :: r => some (r.foldl (fun a b => if a < b then b else a) x)
abbrev minB (xs : List PyData) (k : DB) : Bool := bnd (intsO xs) fun ns => bnd (leastI ns) fun m => decide (m ∈ ns ∧ ∀ j ∈ ns, m ≤ j) && k (.int m)
abbrev maxB (xs : List PyData) (k : DB) : Bool := bnd (intsO xs) fun ns => bnd (mostI ns) fun m => decide (m ∈ ns ∧ ∀ j ∈ ns, j ≤ m) && k (.int m)
theorem minK (h : minB xs kb = true) (hk : ∀ a, kb a = true → k a) : minW xs k := by
  refine bndK (k := fun ns : List Int => ∃ m, m ∈ ns ∧ (∀ j ∈ ns, m ≤ j) ∧ k (.int m)) (fun ns e hh => ?_) h fun ns h2 => bndK (k := fun m : Int => (m ∈ ns ∧ ∀ j ∈ ns, m ≤ j) ∧ k (.int m)) (fun m _ hh => ⟨m, hh.1.1, hh.1.2, hh.2⟩) h2 fun m h3 => ?_
  · obtain ⟨m, h1, h2, h3⟩ := hh; exact ⟨ns, m, intsO_ok e, h1, h2, h3⟩
  · rw [Bool.and_eq_true] at h3; exact ⟨of_decide_eq_true h3.1, hk _ h3.2⟩
theorem maxK (h : maxB xs kb = true) (hk : ∀ a, kb a = true → k a) : maxW xs k := by
  refine bndK (k := fun ns : List Int => ∃ m, m ∈ ns ∧ (∀ j ∈ ns, j ≤ m) ∧ k (.int m)) (fun ns e hh => ?_) h fun ns h2 => bndK (k := fun m : Int => (m ∈ ns ∧ ∀ j ∈ ns, j ≤ m) ∧ k (.int m)) (fun m _ hh => ⟨m, hh.1.1, hh.1.2, hh.2⟩) h2 fun m h3 => ?_
  · obtain ⟨m, h1, h2, h3⟩ := hh; exact ⟨ns, m, intsO_ok e, h1, h2, h3⟩
  · rw [Bool.and_eq_true] at h3; exact ⟨of_decide_eq_true h3.1, hk _ h3.2⟩
abbrev letB {α : Type} (a : α) (k : α → Bool) : Bool := k a
theorem letK {α : Type} {a : α} {kb : α → Bool} {k : α → Prop} (h : letB a kb = true) (hk : ∀ a, kb a = true → k a) : letW a k := hk _ h
def zlim (n : Nat) : Bool := decide (n ≤ 100000)
abbrev dispTB (xs : List PyData) (k : DB) : Bool := zlim xs.length && k (.tuple xs)
abbrev dispLB (xs : List PyData) (k : List PyData → Bool) : Bool := zlim xs.length && k xs
theorem dispTK (h : dispTB xs kb = true) (hk : ∀ a, kb a = true → k a) : dispT xs k := by
  rw [Bool.and_eq_true] at h; exact ⟨of_decide_eq_true h.1, hk _ h.2⟩
theorem dispLK (h : dispLB xs kbl = true) (hk : ∀ a, kbl a = true → kl a) : dispL xs kl := by
  rw [Bool.and_eq_true] at h; exact ⟨of_decide_eq_true h.1, hk _ h.2⟩
abbrev fzB (xs : List PyData) (k : DB) : Bool := k (.list xs)
theorem fzK (h : fzB xs kb = true) (hk : ∀ a, kb a = true → k a) : fzW xs k := hk _ h
abbrev tupB (xs : List PyData) (k : DB) : Bool := k (.tuple xs)
theorem tupK (h : tupB xs kb = true) (hk : ∀ a, kb a = true → k a) : tupW xs k := hk _ h
abbrev catB (xs ys : List PyData) (k : List PyData → Bool) : Bool := zlim (xs.length + ys.length) && k (xs ++ ys)
theorem catK (h : catB xs ys kbl = true) (hk : ∀ a, kbl a = true → kl a) : catW xs ys kl := by
  rw [Bool.and_eq_true] at h; exact ⟨of_decide_eq_true h.1, hk _ h.2⟩
abbrev extB (xs ys : List PyData) (k : List PyData → Bool) : Bool := zlim (xs.length + ys.length) && k (xs ++ ys)
theorem extK (h : extB xs ys kbl = true) (hk : ∀ a, kbl a = true → kl a) : extW xs ys kl := by
  rw [Bool.and_eq_true] at h; exact ⟨of_decide_eq_true h.1, hk _ h.2⟩
abbrev cutB (xs : List PyData) (lo hi : Option Int) (k : List PyData → Bool) : Bool := k (cutD xs lo hi)
theorem cutK {lo hi : Option Int} (h : cutB xs lo hi kbl = true) (hk : ∀ a, kbl a = true → kl a) : cutW xs lo hi kl := hk _ h
def slDO (d : PyData) (lo hi : Option Int) : Option PyData := match d with | .tuple xs => some (.tuple (cutD xs lo hi)) | .list xs => some (.list (cutD xs lo hi)) | _ => none
abbrev slDB (d : PyData) (lo hi : Option Int) (k : DB) : Bool := bnd (slDO d lo hi) k
theorem slDK {lo hi : Option Int} (h : slDB x lo hi kb = true) (hk : ∀ a, kb a = true → k a) : slDW x lo hi k := bndK (fun a e hh => by cases x <;> cases e <;> exact hh) h hk
def augO (f : Int → Int → Int) (x y : PyData) : Option PyData := match x, y with | .int a, .int b => some (.int (f a b)) | _, _ => none
abbrev augB (f : Int → Int → Int) (x y : PyData) (k : DB) : Bool := bnd (augO f x y) k
theorem augK {f : Int → Int → Int} (h : augB f x y kb = true) (hk : ∀ a, kb a = true → k a) : augW f x y k := bndK (fun a e hh => by
  unfold augO at e
  split at e
  · cases e; exact hh
  · cases e) h hk
abbrev appB (xs : List PyData) (d : PyData) (k : List PyData → Bool) : Bool := decide (xs.length < 100000) && k (xs ++ [d])
theorem appK (h : appB xs x kbl = true) (hk : ∀ a, kbl a = true → kl a) : appW xs x kl := by
  rw [Bool.and_eq_true] at h; exact ⟨of_decide_eq_true h.1, hk _ h.2⟩
def setO (xs : List PyData) (i d : PyData) : Option (List PyData) := match i with | .int n => (ixN xs.length n).map fun j => xs.set j d | _ => none
abbrev setB (xs : List PyData) (i d : PyData) (k : List PyData → Bool) : Bool := bnd (setO xs i d) k
theorem setK (h : setB xs x y kbl = true) (hk : ∀ a, kbl a = true → kl a) : setW xs x y kl := bndK (fun a e hh => by
  cases x with
  | int n =>
    have e' : (ixN xs.length n).map (fun j => xs.set j y) = some a := e
    cases q : ixN xs.length n with
    | none => rw [q] at e'; cases e'
    | some j => rw [q] at e'; cases e'; exact ⟨j, q, hh⟩
  | _ => cases e) h hk
def mulLO (xs : List PyData) (y : PyData) : Option (List PyData) := match y with | .int j => iff' (0 ≤ j ∧ j ≤ 1000 ∧ xs.length ≤ 100) (List.replicate j.toNat xs).flatten | _ => none
abbrev mulLB (xs : List PyData) (y : PyData) (k : List PyData → Bool) : Bool := bnd (mulLO xs y) k
theorem mulLK (h : mulLB xs y kbl = true) (hk : ∀ a, kbl a = true → kl a) : mulLW xs y kl := bndK (fun a e hh => by
  cases y <;> first | (obtain ⟨⟨h1, h2, h3⟩, rfl⟩ := iff'_ok e; exact ⟨h1, h2, h3, hh⟩) | cases e) h hk
/-! ranges -/
def rngO (x : PyData) : Option (List PyData) := match x with | .int n => iff' (-100000 ≤ n ∧ n ≤ 100000) (rgI n) | _ => none
def rgLO (x : PyData) : Option (List PyData) := match x with | .int n => iff' (0 ≤ n ∧ n ≤ 100000) (rgI n) | _ => none
def rng2O (x y : PyData) : Option (List PyData) := match x, y with | .int i, .int j => iff' (-100000 ≤ i ∧ i ≤ 100000 ∧ j ≤ 100000 ∧ -100000 ≤ j) (rgIJ i j) | _, _ => none
def rgL2O (x y : PyData) : Option (List PyData) := match x, y with | .int i, .int j => iff' (0 ≤ i ∧ i ≤ 100000 ∧ 0 ≤ j ∧ j ≤ 100000) (rgIJ i j) | _, _ => none
abbrev rngB (x : PyData) (k : List PyData → Bool) : Bool := bnd (rngO x) k
abbrev rgLB (x : PyData) (k : List PyData → Bool) : Bool := bnd (rgLO x) k
abbrev rng2B (x y : PyData) (k : List PyData → Bool) : Bool := bnd (rng2O x y) k
abbrev rgL2B (x y : PyData) (k : List PyData → Bool) : Bool := bnd (rgL2O x y) k
theorem rngK (h : rngB x kbl = true) (hk : ∀ a, kbl a = true → kl a) : rngW x kl := bndK (fun a e hh => by
  cases x <;> first | (obtain ⟨⟨h1, h2⟩, rfl⟩ := iff'_ok e; exact ⟨h1, h2, hh⟩) | cases e) h hk
theorem rgLK (h : rgLB x kbl = true) (hk : ∀ a, kbl a = true → kl a) : rgLW x kl := bndK (fun a e hh => by
  cases x <;> first | (obtain ⟨⟨h1, h2⟩, rfl⟩ := iff'_ok e; exact ⟨h1, h2, hh⟩) | cases e) h hk
theorem rng2K (h : rng2B x y kbl = true) (hk : ∀ a, kbl a = true → kl a) : rng2W x y kl := bndK (fun a e hh => by
  unfold rng2O at e
  split at e
  · obtain ⟨⟨h1, h2, h3, h4⟩, rfl⟩ := iff'_ok e; exact ⟨h1, h2, h3, h4, hh⟩
  · cases e) h hk
theorem rgL2K (h : rgL2B x y kbl = true) (hk : ∀ a, kbl a = true → kl a) : rgL2W x y kl := bndK (fun a e hh => by
  unfold rgL2O at e
  split at e
  · obtain ⟨⟨h1, h2, h3, h4⟩, rfl⟩ := iff'_ok e; exact ⟨h1, h2, h3, h4, hh⟩
  · cases e) h hk
/-! names for what comes in twos and threes -/
def un2O (x : PyData) : Option (PyData × PyData) := match x with | .tuple [a, b] => some (a, b) | _ => none
def un3O (x : PyData) : Option (PyData × PyData × PyData) := match x with | .tuple [a, b, c] => some (a, b, c) | _ => none
abbrev un2B (x : PyData) (k : PyData → PyData → Bool) : Bool := bnd (un2O x) fun p => k p.1 p.2
abbrev un3B (x : PyData) (k : PyData → PyData → PyData → Bool) : Bool := bnd (un3O x) fun p => k p.1 p.2.1 p.2.2
theorem un2K {kb : PyData → PyData → Bool} {k : PyData → PyData → Prop} (h : un2B x kb = true) (hk : ∀ a b, kb a b = true → k a b) : un2W x k := bndK (k := fun p : PyData × PyData => k p.1 p.2) (fun a e hh => by
  unfold un2O at e
  split at e
  · cases e; exact hh
  · cases e) h fun a => hk _ _
theorem un3K {kb : PyData → PyData → PyData → Bool} {k : PyData → PyData → PyData → Prop} (h : un3B x kb = true) (hk : ∀ a b c, kb a b c = true → k a b c) : un3W x k := bndK (k := fun p : PyData × PyData × PyData => k p.1 p.2.1 p.2.2) (fun a e hh => by
  unfold un3O at e
  split at e
  · cases e; exact hh
  · cases e) h fun a => hk _ _ _
/-! tests, joins -/
def iteB (b p q : Bool) : Bool := match b with | true => p | false => q
theorem iteK {b pb qb : Bool} {p q : Prop} (h : iteB b pb qb = true) (h1 : pb = true → p) (h2 : qb = true → q) : iteW b p q := by
  cases b
  · exact h2 h
  · exact h1 h
abbrev joinB {κ : Type} (f : κ → Bool) (k : κ) : Bool := f k
theorem joinK0 {fb : Bool → Bool} {f : Prop → Prop} {kb : Bool} {k : Prop} (h : joinB fb kb = true) (hf : ∀ (kb' : Bool) (k' : Prop), (kb' = true → k') → fb kb' = true → f k') (hk : kb = true → k) : joinW f k := hf _ _ hk h
theorem joinK1 {α : Type} {fb : (α → Bool) → Bool} {f : (α → Prop) → Prop} {kb : α → Bool} {k : α → Prop} (h : joinB fb kb = true) (hf : ∀ (kb' : α → Bool) (k' : α → Prop), (∀ a, kb' a = true → k' a) → fb kb' = true → f k') (hk : ∀ a, kb a = true → k a) : joinW f k := hf _ _ hk h
theorem joinK2 {α β : Type} {fb : (α → β → Bool) → Bool} {f : (α → β → Prop) → Prop} {kb : α → β → Bool} {k : α → β → Prop} (h : joinB fb kb = true) (hf : ∀ (kb' : α → β → Bool) (k' : α → β → Prop), (∀ a b, kb' a b = true → k' a b) → fb kb' = true → f k') (hk : ∀ a b, kb a b = true → k a b) : joinW f k := hf _ _ hk h
theorem joinK3 {α β γ : Type} {fb : (α → β → γ → Bool) → Bool} {f : (α → β → γ → Prop) → Prop} {kb : α → β → γ → Bool} {k : α → β → γ → Prop} (h : joinB fb kb = true) (hf : ∀ (kb' : α → β → γ → Bool) (k' : α → β → γ → Prop), (∀ a b c, kb' a b c = true → k' a b c) → fb kb' = true → f k') (hk : ∀ a b c, kb a b c = true → k a b c) : joinW f k := hf _ _ hk h
abbrev BB := (Bool → Bool) → Bool
def andB (t u : BB) (k : Bool → Bool) : Bool := t fun b => iteB b (u k) (k false)
def orB (t u : BB) (k : Bool → Bool) : Bool := t fun b => iteB b (k true) (u k)
abbrev RelB (tb : BB) (t : (Bool → Prop) → Prop) : Prop := ∀ (kb : Bool → Bool) (k : Bool → Prop), (∀ b, kb b = true → k b) → tb kb = true → t k
theorem andK {tb ub : BB} {t u : (Bool → Prop) → Prop} {kb : Bool → Bool} {k : Bool → Prop} (h : andB tb ub kb = true) (ht : RelB tb t) (hu : RelB ub u) (hk : ∀ b, kb b = true → k b) : andW t u k := ht _ _ (fun b hb => iteK hb (hu _ _ hk) (hk _)) h
theorem orK {tb ub : BB} {t u : (Bool → Prop) → Prop} {kb : Bool → Bool} {k : Bool → Prop} (h : orB tb ub kb = true) (ht : RelB tb t) (hu : RelB ub u) (hk : ∀ b, kb b = true → k b) : orW t u k := ht _ _ (fun b hb => iteK hb (hk _) (hu _ _ hk)) h
abbrev BV := DB → Bool
abbrev RelV (tb : BV) (t : DP → Prop) : Prop := ∀ (kb : DB) (k : DP), (∀ b, kb b = true → k b) → tb kb = true → t k
def andVB (t u : BV) (k : DB) : Bool := t fun x => boolB x fun b => iteB b (u k) (k (.bool false))
def orVB (t u : BV) (k : DB) : Bool := t fun x => boolB x fun b => iteB b (k (.bool true)) (u k)
theorem andVK {tb ub : BV} {t u : DP → Prop} (h : andVB tb ub kb = true) (ht : RelV tb t) (hu : RelV ub u) (hk : ∀ b, kb b = true → k b) : andVW t u k := ht _ _ (fun x hx => boolK hx fun b hb => iteK hb (hu _ _ hk) (hk _)) h
theorem orVK {tb ub : BV} {t u : DP → Prop} (h : orVB tb ub kb = true) (ht : RelV tb t) (hu : RelV ub u) (hk : ∀ b, kb b = true → k b) : orVW t u k := ht _ _ (fun x hx => boolK hx fun b hb => iteK hb (hk _) (hu _ _ hk)) h
def chainB (o o' : PyData → PyData → DB → Bool) (x y : PyData) (c : BV) (k : DB) : Bool := o x y fun r => boolB r fun b => iteB b (c fun z => o' y z k) (k (.bool false))
abbrev RelO (o : PyData → PyData → DB → Bool) (m : OpW) : Prop := ∀ x y (kb : DB) (k : DP), o x y kb = true → (∀ b, kb b = true → k b) → m x y k
theorem chainK {ob ob' : PyData → PyData → DB → Bool} {o o' : OpW} (r : RelO ob o) (r' : RelO ob' o') {cb : BV} {c : DP → Prop} (h : chainB ob ob' x y cb kb = true) (hc : RelV cb c) (hk : ∀ b, kb b = true → k b) : chainW o o' x y c k :=
  r _ _ _ _ h fun v hv => boolK hv fun b hb => iteK hb (hc _ _ fun z hz => r' _ _ _ _ hz hk) (hk _)
/-! comprehensions, loops -/
def lcGoB (body : PyData → DB → Bool → Bool) : List PyData → (List PyData → Bool) → Bool
  | [], k => k []
  | x :: xs, k => body x (fun d => lcGoB body xs fun l => k (d :: l)) (lcGoB body xs k)
abbrev RelC (bb : PyData → DB → Bool → Bool) (body : PyData → DP → Prop → Prop) : Prop := ∀ x (Yb : DB) (Nb : Bool) (Y : DP) (N : Prop), (∀ d, Yb d = true → Y d) → (Nb = true → N) → bb x Yb Nb = true → body x Y N
theorem lcGoK {bb : PyData → DB → Bool → Bool} {body : PyData → DP → Prop → Prop} (hb : RelC bb body) : ∀ {xs : List PyData} {kb : List PyData → Bool} {k : List PyData → Prop}, (∀ l, kb l = true → k l) → lcGoB bb xs kb = true → lcGo body xs k
  | [], _, _, hk, h => hk _ h
  | x :: xs, kb, k, hk, h => hb x _ _ _ _ (fun d hd => lcGoK hb (fun l hl => hk _ hl) hd) (fun hn => lcGoK hb hk hn) h
def lcB (items : List PyData) (body : PyData → DB → Bool → Bool) (k : List PyData → Bool) : Bool := zlim items.length && lcGoB body items k
def lcMB (items : List PyData) (body : PyData → DB → Bool) (k : List PyData → Bool) : Bool := lcB items (fun x Y _ => body x Y) k
theorem lcK {bb : PyData → DB → Bool → Bool} {body : PyData → DP → Prop → Prop} (h : lcB xs bb kbl = true) (hb : RelC bb body) (hk : ∀ l, kbl l = true → kl l) : lcW xs body kl := by
  unfold lcB at h
  rw [Bool.and_eq_true] at h
  exact ⟨of_decide_eq_true h.1, lcGoK hb hk h.2⟩
theorem lcMK {bb : PyData → DB → Bool} {body : PyData → DP → Prop} (h : lcMB xs bb kbl = true) (hb : ∀ x (Yb : DB) (Y : DP), (∀ d, Yb d = true → Y d) → bb x Yb = true → body x Y) (hk : ∀ l, kbl l = true → kl l) : lcMW xs body kl :=
  lcK (bb := fun x Y _ => bb x Y) h (fun x Yb Nb Y N hY _ => hb x Yb Y hY) hk
abbrev In2B := List PyData → (PyData → DB → Bool → Bool) → Bool
def lc2GoB (body : PyData → In2B → Bool → Bool) : List PyData → (List PyData → Bool) → Bool
  | [], k => k []
  | x :: xs, k => body x (fun ys b2 => decide (ys.length ≤ 1000) && lcGoB b2 ys fun l => lc2GoB body xs fun l' => k (l ++ l')) (lc2GoB body xs k)
abbrev RelC2 (bb : PyData → In2B → Bool → Bool) (body : PyData → In2 → Prop → Prop) : Prop := ∀ x (Yb : In2B) (Nb : Bool) (Y : In2) (N : Prop), (∀ ys b2b b2, RelC b2b b2 → Yb ys b2b = true → Y ys b2) → (Nb = true → N) → bb x Yb Nb = true → body x Y N
theorem lc2GoK {bb : PyData → In2B → Bool → Bool} {body : PyData → In2 → Prop → Prop} (hb : RelC2 bb body) : ∀ {xs : List PyData} {kb : List PyData → Bool} {k : List PyData → Prop}, (∀ l, kb l = true → k l) → lc2GoB bb xs kb = true → lc2Go body xs k
  | [], _, _, hk, h => hk _ h
  | x :: xs, kb, k, hk, h => hb x _ _ _ _ (fun ys b2b b2 r hy => by
      rw [Bool.and_eq_true] at hy
      exact ⟨of_decide_eq_true hy.1, lcGoK r (fun l hl => lc2GoK hb (fun l' hl' => hk _ hl') hl) hy.2⟩) (fun hn => lc2GoK hb hk hn) h
def lc2B (items : List PyData) (body : PyData → In2B → Bool → Bool) (k : List PyData → Bool) : Bool := decide (items.length ≤ 100) && lc2GoB body items k
theorem lc2K {bb : PyData → In2B → Bool → Bool} {body : PyData → In2 → Prop → Prop} (h : lc2B xs bb kbl = true) (hb : RelC2 bb body) (hk : ∀ l, kbl l = true → kl l) : lc2W xs body kl := by
  unfold lc2B at h
  rw [Bool.and_eq_true] at h
  exact ⟨of_decide_eq_true h.1, lc2GoK hb hk h.2⟩
def forB {σ : Type} (body : PyData → σ → (σ → Bool) → (σ → Bool) → Bool) (done : σ → Bool) : List PyData → σ → Bool
  | [], s => done s
  | x :: xs, s => body x s (fun s' => forB body done xs s') done
theorem forK {σ : Type} {bb : PyData → σ → (σ → Bool) → (σ → Bool) → Bool} {body : PyData → σ → (σ → Prop) → (σ → Prop) → Prop} {db : σ → Bool} {done : σ → Prop} : ∀ {xs : List PyData} {s : σ}, forB bb db xs s = true →
    (∀ x s (nb kb : σ → Bool) (nx bk : σ → Prop), (∀ s', nb s' = true → nx s') → (∀ s', kb s' = true → bk s') → bb x s nb kb = true → body x s nx bk) → (∀ s, db s = true → done s) → forW body done xs s
  | [], _, h, _, hd => hd _ h
  | x :: xs, s, h, hb, hd => hb x s _ _ _ _ (fun s' h' => forK h' hb hd) hd h
def runB {σ : Type} (cond : σ → (Bool → Bool) → Bool) (body : σ → (σ → Bool) → (σ → Bool) → Bool) (done : σ → Bool) : Nat → σ → Bool
  | 0, _ => false
  | n + 1, s => cond s fun b => iteB b (body s (runB cond body done n) done) (done s)
def whileB {σ : Type} (s0 : σ) (cond : σ → (Bool → Bool) → Bool) (body : σ → (σ → Bool) → (σ → Bool) → Bool) (done : σ → Bool) : Bool := runB cond body done 200 s0
theorem least_of {p : Nat → Prop} (h : ∃ n, p n) : ∃ n, p n ∧ ∀ m, p m → n ≤ m := by
  obtain ⟨n, hn⟩ := h
  induction n using Nat.strongRecOn with
  | ind n ih =>
    by_cases hx : ∃ m, m < n ∧ p m
    · obtain ⟨m, h1, h2⟩ := hx; exact ih m h1 h2
    · exact ⟨n, hn, fun m hm => Nat.le_of_not_lt fun hl => hx ⟨m, hl, hm⟩⟩
theorem whileK {σ : Type} {s0 : σ} {cb : σ → (Bool → Bool) → Bool} {bb : σ → (σ → Bool) → (σ → Bool) → Bool} {db : σ → Bool} {cond : σ → (Bool → Prop) → Prop} {body : σ → (σ → Prop) → (σ → Prop) → Prop} {done : σ → Prop} (h : whileB s0 cb bb db = true)
    (hc : ∀ s (kb : Bool → Bool) (k : Bool → Prop), (∀ b, kb b = true → k b) → cb s kb = true → cond s k)
    (hb : ∀ s (nb kb : σ → Bool) (nx bk : σ → Prop), (∀ s', nb s' = true → nx s') → (∀ s', kb s' = true → bk s') → bb s nb kb = true → body s nx bk) (hd : ∀ s, db s = true → done s) : whileW s0 cond body done := by
  classical
  let I : σ → Prop := fun s => ∃ n, runB cb bb db n s = true
  let μ : σ → Nat := fun s => if hI : I s then Classical.choose (least_of hI) else 0
  have le : ∀ {n : Nat} {s : σ}, runB cb bb db n s = true → μ s ≤ n := fun {n s} hr => by
    have hI : I s := ⟨n, hr⟩
    show (if hI : I s then Classical.choose (least_of hI) else 0) ≤ n
    rw [dif_pos hI]; exact (Classical.choose_spec (least_of hI)).2 _ hr
  refine ⟨I, μ, ⟨200, h⟩, fun s hI => ?_⟩
  have hm : μ s = Classical.choose (least_of hI) := dif_pos hI
  have hr := (Classical.choose_spec (least_of hI)).1
  rw [← hm] at hr
  cases hn : μ s with
  | zero => rw [hn] at hr; cases hr
  | succ n =>
    rw [hn] at hr
    refine hc s _ _ (fun b hb1 => ?_) hr
    exact iteK hb1 (fun h2 => hb s _ _ _ _ (fun s' h3 => ⟨⟨n, h3⟩, by have := le h3; omega⟩) hd h2) (hd s)
/-! what errors are -/
abbrev catchB (xn : List Str) (n J : Str) (p q : Bool) : Bool := xn.contains n && xn.contains J && iteB (subX n J) p q
theorem catchK {xn : List Str} {n J : Str} {pb qb : Bool} {p q : Prop} (h : catchB xn n J pb qb = true) (h1 : pb = true → p) (h2 : qb = true → q) : catchW xn n J p q := by
  rw [Bool.and_eq_true, Bool.and_eq_true] at h
  exact ⟨List.contains_iff_mem.mp h.1.1, List.contains_iff_mem.mp h.1.2, iteK h.2 h1 h2⟩
abbrev isXB (xn : List Str) (n X : Str) (k : DB) : Bool := xn.contains n && xn.contains X && k (.bool (subX n X))
theorem isXK {xn : List Str} {n X : Str} (h : isXB xn n X kb = true) (hk : ∀ a, kb a = true → k a) : isXW xn n X k := by
  rw [Bool.and_eq_true, Bool.and_eq_true] at h
  exact ⟨List.contains_iff_mem.mp h.1.1, List.contains_iff_mem.mp h.1.2, hk _ h.2⟩
abbrev isVB (xn : List Str) (n : Str) (k : DB) : Bool := xn.contains n && k (.bool true)
theorem isVK {xn : List Str} {n : Str} (h : isVB xn n kb = true) (hk : ∀ a, kb a = true → k a) : isVW xn n k := by
  rw [Bool.and_eq_true] at h
  exact ⟨List.contains_iff_mem.mp h.1, hk _ h.2⟩
abbrev nofB {α : Type} (f : Option α) (p : Bool) : Bool := f.isNone && p
theorem nofK {α : Type} {f : Option α} {pb : Bool} {p : Prop} (h : nofB f pb = true) (hk : pb = true → p) : f = none ∧ p := by
  rw [Bool.and_eq_true] at h
  exact ⟨Option.isNone_iff_eq_none.mp h.1, hk h.2⟩
abbrev noLB (d : PyData) (k : DB) : Bool := noList d && k d
theorem noLK (h : noLB x kb = true) (hk : ∀ a, kb a = true → k a) : noLW x k := by
  rw [Bool.and_eq_true] at h; exact ⟨h.1, hk _ h.2⟩
abbrev noLsB (xs : List PyData) (k : List PyData → Bool) : Bool := noLists xs && k xs
theorem noLsK (h : noLsB xs kbl = true) (hk : ∀ a, kbl a = true → kl a) : noLsW xs kl := by
  rw [Bool.and_eq_true] at h; exact ⟨h.1, hk _ h.2⟩
/-! where a thing stands -/
def idxGo (d : PyData) : List PyData → Nat → Option Nat | [], _ => none | x :: r, j => if PyData.eqv x d = true then some j else idxGo d r (j + 1)
theorem idxGo_ok {d : PyData} : ∀ {r : List PyData} {j i : Nat}, idxGo d r j = some i → ∃ m z, i = j + m ∧ r[m]? = some z ∧ PyData.eqv z d = true ∧ ∀ n z', n < m → r[n]? = some z' → PyData.eqv z' d = false
  | [], _, _, e => by cases e
  | x :: r, j, i, e => by
    unfold idxGo at e
    split at e
    · rename_i hx
      cases e
      exact ⟨0, x, rfl, rfl, hx, fun n z' hn => absurd hn (Nat.not_lt_zero _)⟩
    · rename_i hx
      obtain ⟨m, z, h1, h2, h3, h4⟩ := idxGo_ok e
      refine ⟨m + 1, z, by omega, h2, h3, fun n z' hn hz => ?_⟩
      cases n with
      | zero => cases hz; exact Bool.eq_false_iff.mpr hx
      | succ n => exact h4 n z' (by omega) hz
def idxO (xs : List PyData) (d : PyData) : Option PyData := if SeqAt.shaped (.list xs) = true ∧ SeqAt.shaped d = true then (idxGo d xs 0).map fun j : Nat => .int j else none
abbrev idxB (xs : List PyData) (d : PyData) (k : DB) : Bool := bnd (idxO xs d) k
theorem idxK (h : idxB xs y kb = true) (hk : ∀ a, kb a = true → k a) : idxW xs y k := bndK (fun a e hh => by
  unfold idxO at e
  split at e
  · rename_i hs
    cases q : idxGo y xs 0 with
    | none => rw [q] at e; cases e
    | some j =>
      rw [q] at e
      cases e
      obtain ⟨m, z, h1, h2, h3, h4⟩ := idxGo_ok q
      refine ⟨hs.1, hs.2, j, z, ?_, h3, fun n z' hn => h4 n z' (by omega), hh⟩
      rw [h1, Nat.zero_add]; exact h2
  · cases e) h hk
/-! draws of few -/
abbrev drawB (x : PyData) (k : DB) : Bool := match x with | .int n => decide (0 < n ∧ n ≤ 64) && (List.range n.toNat).all fun r : Nat => k (.int r) | _ => false
theorem drawK (h : drawB x kb = true) (hk : ∀ a, kb a = true → k a) : drawW x k := by
  cases x with
  | int n =>
    have h' : (decide (0 < n ∧ n ≤ 64) && (List.range n.toNat).all fun r : Nat => kb (.int r)) = true := h
    rw [Bool.and_eq_true, List.all_eq_true] at h'
    obtain ⟨h1, h2⟩ := h'
    have h1 := of_decide_eq_true h1
    refine ⟨h1.1, by omega, fun r h3 h4 => hk _ ?_⟩
    have := h2 r.toNat (List.mem_range.mpr (by omega))
    rwa [show ((r.toNat : Nat) : Int) = r by omega] at this
  | _ => cases h
end
def isT : PyData → Bool | .bool true => true | _ => false
theorem isT_ok {d : PyData} (h : isT d = true) : d = .bool true := by
  unfold isT at h
  split at h
  · rfl
  · cases h
theorem isT_go {p : PyData → Prop} (h : p (.bool true)) : ∀ d, isT d = true → p d := fun d hd => by rw [isT_ok hd]; exact h
theorem noGo {er : XP} : ∀ n f, noB n f = true → er n f := fun _ _ h => nomatch h
end Eh

/-! several except clauses, each with a name for the error or without -/
namespace Eh
open PySem PySem.Spec PyProof.Rows L2 L2N
abbrev Cls := Value × Option Nat × (Addr → Value → Option Addr → TS)
/-- the ends behind a suite whose name goes -/
abbrev goneE (i : Nat) (D : Ends) : Ends := { nx := fun σ' H' => D.nx (σ'.set i none) H', rt := D.rt, bk := fun σ' H' => D.bk (σ'.set i none) H', ct := fun σ' H' => D.ct (σ'.set i none) H' }
def wCls (K : PySem.W.Frag) (Wout : WX) (D : Ends) : List Cls → WX
  | [] => Wout
  | (c, none, ts) :: r => fun cls d σ H => ∃ b, PySem.W.exmOne K cls c = some b ∧ (b = true → ∀ a, H a = none → ts a cls d D σ H) ∧ (b = false → wCls K Wout D r cls d σ H)
  | (c, some i, ts) :: r => fun cls d σ H => ∃ b, PySem.W.exmOne K cls c = some b ∧ (b = true → ∀ a, H a = none → ts a cls d (goneE i D) (σ.set i (some (.ref a))) H) ∧ (b = false → wCls K Wout D r cls d σ H)
inductive HdsN (X : Cx) : List ExceptHandler → List Cls → Prop
  | nil : HdsN X [] []
  | cons {x : Str} {c : Value} {ts : Addr → Value → Option Addr → TS} {b₀ : Stmt} {suite : List Stmt} {np pos' : Pos} {hds : List ExceptHandler} {l : List Cls} (hc : Names X x c)
      (hsu : ∀ (a : Addr) (oe : Obj) (cls : Value) (d : Option Addr) (pn : List (Addr × Obj)), L2N.Zn cls d oe → (∃ vs, oe.data = .fields vs) → PSs (X.suite a ((a, oe) :: pn)) (b₀ :: suite) (ts a cls d)) (r : HdsN X hds l) :
      HdsN X (.ExceptHandler (some (.Name x np)) none (b₀ :: suite) pos' :: hds) ((c, none, ts) :: l)
  | consAs {x n : Str} {i : Nat} {c : Value} {ts : Addr → Value → Option Addr → TS} {b₀ : Stmt} {suite : List Stmt} {np pos' : Pos} {hds : List ExceptHandler} {l : List Cls} (hN : X.N.Nodup) (hi : X.N[i]? = some n) (hln : X.env.kindOf n = some .local) (hc : Names X x c)
      (hsu : ∀ (a : Addr) (oe : Obj) (cls : Value) (d : Option Addr) (pn : List (Addr × Obj)), L2N.Zn cls d oe → (∃ vs, oe.data = .fields vs) → PSs (X.suite a ((a, oe) :: pn)) (b₀ :: suite) (ts a cls d)) (r : HdsN X hds l) :
      HdsN X (.ExceptHandler (some (.Name x np)) (some n) (b₀ :: suite) pos' :: hds) ((c, some i, ts) :: l)
section
variable {X : Cx} {body : List Stmt} {h₀ : ExceptHandler} {hds : List ExceptHandler} {l : List Cls} {pos : Pos} {tb : WX → TS} {Wout : WX}
theorem ps_try_cls (hs : X.stack = X.env :: X.outer) (hf : X.env.frame = some X.env.locals) (tk : L2N.Takes X Wout)
    (hb : ∀ (W : WX) (pn : List (Addr × Obj)) (xe : Value → Shared → Prop), L2N.Takes (X.tr pn xe) W → PassesOwn (model X.prog X.w) X.A X.env xe → PSs (X.tr pn xe) body (tb W))
    (hh : HdsN X (h₀ :: hds) l) : PS X (.Try body (h₀ :: hds) [] [] pos) (fun D σ H => tb (wCls X.K Wout D l) D σ H) := by
  refine ⟨fun pins s σ H D I h => ?_⟩
  have ok := I.ok
  have hfr : X.A.frames = some (X.env :: X.outer) := by rw [ok.frames, hs]
  refine wpAny_Try_except ?_
  refine wpAny_mono ((hb (wCls X.K Wout D l) (X.pn ++ pins) (fun e s₁ => wpAny (model X.prog X.w) X.A (noteFrame e X.env) (fun _ s₂ => wpAny (model X.prog X.w) X.A (setFlight e none) (fun _ s₃ =>
    wpAny (model X.prog X.w) X.A (handleBy e X.env (h₀ :: hds)) (SP X pins D) X.xe s₃) X.xe s₂) X.xe s₁) (fun u s' xx => ?_) PassesOwn.looking).run [] s σ H D (I.toTry _) h) (fun f s1 hsp => ?_) (fun e s1 he => he)
  · -- the catch
    obtain ⟨a, B, sI, pins', σ', H', cls, d, rfl, J', nb, up, sky, na, os, ag, w⟩ := xx
    have J : Inv X pins σ' H' sI := J'.ofTry ok
    have sky' : Sky B (X.env :: X.outer) a (L2N.Zn cls d) X.env.locals s'.heap := by rw [← hs]; exact sky
    show wpAny (model X.prog X.w) X.A (noteFrame (.ref a) X.env) _ _ _
    refine Sky.land L2N.Zn.steady hfr hf sky' fun h3 fl3 up3 => ?_
    have J3 : Inv X pins σ' H' { s' with heap := h3 } := J.landed nb fl3.1 (up.trans up3) os ag
    obtain ⟨oe3, vs3, he3, hz3, hd3⟩ := fl3.there
    have notFr : ∀ {h : Heap} {o : Obj} {vs : Array Value}, h.FunFrames B (X.env :: X.outer) → h.get? a = some o → o.data = .fields vs → a ∉ frs (X.env :: X.outer) := fun {h o vs} ff e dd hm => by
      obtain ⟨_, o', e', hnf⟩ := ff.mem hm
      rw [e] at e'; cases e'
      exact hnf _ dd
    have nfr := notFr fl3.2.2.1 he3 hd3
    have nL : a ≠ X.env.locals := fun z => nfr (List.mem_filterMap.mpr ⟨X.env, List.mem_cons_self, by rw [hf, z]⟩)
    have nF : a ∉ X.fs := fun hm => by
      obtain ⟨e, he, q⟩ := List.mem_filterMap.mp hm
      exact nfr (List.mem_filterMap.mpr ⟨e, List.mem_cons_of_mem _ he, q⟩)
    have S3 := J3.suite he3 hd3 na nL nF
    have go : ∀ {hds' : List ExceptHandler} {l' : List Cls}, HdsN X hds' l' → wCls X.K Wout D l' cls d σ' H' →
        wpAny (model X.prog X.w) X.A (handleBy (.ref a) X.env hds') (SP X pins D) X.xe { s' with heap := h3 } := by
      intro hds' l' hk
      induction hk with
      | nil =>
        intro w
        refine wpAny_handleBy_nil ?_
        obtain ⟨k1, k2, k3, oe, vs, T, oT, ts', he, hz, hd, h1, hr⟩ := id fl3
        unfold PySem.passOn
        refine wpAny_bind (wpAny_field he hd h1 ?_)
        rw [if_neg (show ¬ ((Value.ref T == Value.none) = true) from by simp)]
        have fin : wpAny (model X.prog X.w) X.A (setFlight (.ref a) X.env.frame) (fun _ s4 => wpAny (model X.prog X.w) X.A (throw (.ref a) : Sem Flow) (SP X pins D) X.xe s4) X.xe { s' with heap := h3 } := by
          rw [hf]
          refine HandSPX.setFlight_upZ fl3 fun h4 hh4 up4 => wpAny_throw (tk _ _ ?_)
          exact ⟨a, B, sI, pins, σ', H', cls, d, rfl, J, nb, (up.trans up3).trans up4, .inr (.inr (by rw [hs]; exact hh4)), na, os, ag, w⟩
        first
          | exact wpAny_bind (wpAny_pure (wpAny_bind fin))
          | exact wpAny_bind fin
      | @cons x c ts b₀ suite np pos' hds2 l2 hc hsu r ih =>
        intro w
        obtain ⟨b, hb1, hyes, hno⟩ := w
        refine wpAny_handleBy_cons (codeAny_handlers_test ?_) (by intro q; cases q)
        have LT : PySem.W.Looks (model X.prog X.w) h3 (typeOf (.ref a)) cls := fun A Q E s k q => wpAny_typeOf_ref (k _ _ he3) (by rw [hz3.1]; exact q)
        have LM := PySem.W.exm_one (M := model X.prog X.w) (J3.kIn) LT hb1
        have test : ∀ {Q : Value → Shared → Prop} {E : Value → Shared → Prop}, Q c { s' with heap := h3 } → wpAny (model X.prog X.w) (X.A.mark (some (.ref a))) (eval (.Name x np) X.env) Q E { s' with heap := h3 } := fun {Q E} q => by
          obtain ⟨hg, hdbg, hm | ⟨hm, hv, hnn⟩⟩ := hc
          · exact ld_glob (X := X.suite a ((a, oe3) :: (X.pn ++ pins))) S3 hg hm q hdbg
          · exact ld_blt (X := X.suite a ((a, oe3) :: (X.pn ++ pins))) S3 hg hm hv q hnn hdbg
        refine test (LM.here ?_)
        cases b with
        | true =>
          refine codeAny_handlers_suite ?_
          refine HandSPX.lands_againZ fl3 fun h4 fl4 up4 => ?_
          have J4 : Inv X pins σ' H' { s' with heap := h4 } := J.landed nb fl4.1 ((up.trans up3).trans up4) os ag
          obtain ⟨oe4, vs4, he4, hz4, hd4⟩ := fl4.there
          have S4 := J4.suite he4 hd4 na nL nF
          refine wpAny_mono ((hsu a oe4 cls d (X.pn ++ pins) hz4 ⟨_, hd4⟩).run [] _ _ H' _ S4 (hyes rfl a na)) (fun f s6 hsp => ?_) (fun _ _ z => False.elim z)
          cases f with
          | next =>
            obtain ⟨σ6, H6, S6, q6⟩ := hsp
            exact ⟨_, _, S6.unsuite ok, q6⟩
          | brk =>
            obtain ⟨σ6, H6, S6, q6⟩ := hsp
            exact ⟨_, _, S6.unsuite ok, q6⟩
          | cont =>
            obtain ⟨σ6, H6, S6, q6⟩ := hsp
            exact ⟨_, _, S6.unsuite ok, q6⟩
          | ret u =>
            obtain ⟨v6, σ6, H6, S6, r6, q6⟩ := hsp
            exact ⟨_, _, _, S6.unsuite ok, r6, q6⟩
        | false =>
          show wpAny _ X.A (handleBy (.ref a) X.env hds2) _ _ _
          exact ih (hno rfl)
      | @consAs x n i c ts b₀ suite np pos' hds2 l2 hN hi hln hc hsu r ih =>
        intro w
        obtain ⟨b, hb1, hyes, hno⟩ := w
        refine wpAny_handleBy_cons (codeAny_handlers_test ?_) (by intro q; cases q)
        have LT : PySem.W.Looks (model X.prog X.w) h3 (typeOf (.ref a)) cls := fun A Q E s k q => wpAny_typeOf_ref (k _ _ he3) (by rw [hz3.1]; exact q)
        have LM := PySem.W.exm_one (M := model X.prog X.w) (J3.kIn) LT hb1
        have test : ∀ {Q : Value → Shared → Prop} {E : Value → Shared → Prop}, Q c { s' with heap := h3 } → wpAny (model X.prog X.w) (X.A.mark (some (.ref a))) (eval (.Name x np) X.env) Q E { s' with heap := h3 } := fun {Q E} q => by
          obtain ⟨hg, hdbg, hm | ⟨hm, hv, hnn⟩⟩ := hc
          · exact ld_glob (X := X.suite a ((a, oe3) :: (X.pn ++ pins))) S3 hg hm q hdbg
          · exact ld_blt (X := X.suite a ((a, oe3) :: (X.pn ++ pins))) S3 hg hm hv q hnn hdbg
        refine test (LM.here ?_)
        cases b with
        | true =>
          refine codeAny_handlers_suite_as ?_
          refine HandSPX.lands_againZ fl3 fun h4 fl4 up4 => ?_
          have J4 : Inv X pins σ' H' { s' with heap := h4 } := J.landed nb fl4.1 ((up.trans up3).trans up4) os ag
          obtain ⟨oe4, vs4, he4, hz4, hd4⟩ := fl4.there
          have S4 := J4.suite he4 hd4 na nL nF
          refine store_ok (X := X.suite a ((a, oe4) :: (X.pn ++ pins))) (v := .ref a) S4 hN hi (.inl hln) rfl (fun s5 S5 => ?_) (.inr hln)
          refine wpAny_mono ((hsu a oe4 cls d (X.pn ++ pins) hz4 ⟨_, hd4⟩).run [] s5 _ H' _ S5 (hyes rfl a na)) (fun f s6 hsp => ?_) (fun _ _ z => False.elim z)
          have end_ : ∀ {σ6 : L2.St} {H6 : Hp} {Q : Shared → Prop}, Inv (X.suite a ((a, oe4) :: (X.pn ++ pins))) [] σ6 H6 s6 → (∀ s7, Inv X pins (σ6.set i none) H6 s7 → Q s7) →
              wpAny (model X.prog X.w) X.A (do bindName X.env n .none; unbindBehindTheSuite X.env n pos') (fun _ s7 => Q s7) X.xe s6 := fun {σ6 H6 Q} S6 hq => gone_ok (S6.unsuite ok) hN hi hln hq
          cases f with
          | next =>
            obtain ⟨σ6, H6, S6, q6⟩ := hsp
            exact end_ S6 fun s7 J7 => ⟨_, _, J7, q6⟩
          | brk =>
            obtain ⟨σ6, H6, S6, q6⟩ := hsp
            exact end_ S6 fun s7 J7 => ⟨_, _, J7, q6⟩
          | cont =>
            obtain ⟨σ6, H6, S6, q6⟩ := hsp
            exact end_ S6 fun s7 J7 => ⟨_, _, J7, q6⟩
          | ret u =>
            obtain ⟨v6, σ6, H6, S6, r6, q6⟩ := hsp
            exact end_ S6 fun s7 J7 => ⟨_, _, _, J7, r6, q6⟩
        | false =>
          show wpAny _ X.A (handleBy (.ref a) X.env hds2) _ _ _
          exact ih (hno rfl)
    exact go hh w
  · cases f with
    | next =>
      obtain ⟨σ', H', J', q⟩ := hsp
      exact wpAny_execs_nil ⟨σ', H', J'.ofTry ok, q⟩
    | brk =>
      obtain ⟨σ', H', J', q⟩ := hsp
      exact ⟨σ', H', J'.ofTry ok, q⟩
    | cont =>
      obtain ⟨σ', H', J', q⟩ := hsp
      exact ⟨σ', H', J'.ofTry ok, q⟩
    | ret u =>
      obtain ⟨v, σ', H', J', r, q⟩ := hsp
      exact ⟨v, σ', H', J'.ofTry ok, r, q⟩
end
end Eh

namespace Eh
open PySem PySem.Spec PyProof.Rows L2
def tTryC (K : PySem.W.Frag) (l : List Cls) (Wout : WX) (tb : WX → TS) : TS := fun D σ H => tb (wCls K Wout D l) D σ H
section
variable {A : Str → Addr} {C : Pc} {Γ : List Sl} {K : PySem.W.Frag} {B F0 : Hp} {D : Ends} {i i2 : Nat} {J J2 : Str} {xn : List Str} {e : XK} {er : XP} {Hf Hf2 : Str → Prop} {g : XP → Prop} {ts ts2 : Addr → Value → Option Addr → TS} {tb : WX → TS}
theorem xt_last (hx : RaiseW A C B F0 e er) {n : Str} {f : Option (List (Str × V))} {cv : Value} {dd : Option Addr} {F H : Hp} (w : Wd C F H) (gr : Grow C.S F0 B F H) (h : er n f) (hc : XcOk (A n) f cv dd H) : e cv dd H := hx F H cv dd n f w gr h hc
/-- two clauses, the first with a name -/
theorem aw_try2 (fx : XF A K xn) (hx : RaiseW A C B F0 e er) (h : joinW g (fun n f => catchW xn n J (f = none ∧ Hf n) (catchW xn n J2 (f = none ∧ Hf2 n) (er n f))))
    (hb : ∀ xr W, RaiseT A C B F0 Γ (WE W) xr → g xr → At C B F0 Γ (tb W D))
    (hs : ∀ n a D', D'.rt = D.rt → Hf n → At C B F0 (Γ.set i (.ref a)) (ts a (.ref (A n)) none D'))
    (hs2 : ∀ n a, Hf2 n → At C B F0 Γ (ts2 a (.ref (A n)) none D)) :
    At C B F0 Γ (tTryC K [(.ref (A J), some i, ts), (.ref (A J2), none, ts2)] (fun cls d _ H => e cls d H) tb D) := by
  refine hb _ (wCls K (fun cls d _ H => e cls d H) D [(.ref (A J), some i, ts), (.ref (A J2), none, ts2)]) (fun F H σ cv dd n f w gr gm hxx hc => ?_) h
  obtain ⟨h1, h2, h3⟩ := hxx
  have hm := fx.exm n h1 J h2
  have e1 : cv = .ref (A n) := hc.1
  cases hsub : subX n J with
  | true =>
    rw [hsub] at h3 hm
    obtain ⟨rfl, hH⟩ : f = none ∧ Hf n := h3
    obtain ⟨rfl, hd⟩ := hc
    have hd' : dd = none := hd
    subst hd'
    exact ⟨true, hm, fun _ a ha => hs n a (goneE i D) rfl hH F H _ w gr (gm.set (s := .ref a) rfl fun _ z => nomatch z), fun z => nomatch z⟩
  | false =>
    rw [hsub] at h3 hm
    obtain ⟨_, k2, k3⟩ : catchW xn n J2 (f = none ∧ Hf2 n) (er n f) := h3
    have hm2 := fx.exm n h1 J2 k2
    refine ⟨false, by rw [e1]; exact hm, (fun z => nomatch z), fun _ => ?_⟩
    cases hsub2 : subX n J2 with
    | true =>
      rw [hsub2] at k3 hm2
      obtain ⟨rfl, hH⟩ : f = none ∧ Hf2 n := k3
      obtain ⟨rfl, hd⟩ := hc
      have hd' : dd = none := hd
      subst hd'
      exact ⟨true, hm2, fun _ a ha => hs2 n a hH F H _ w gr gm, fun z => nomatch z⟩
    | false =>
      rw [hsub2] at k3 hm2
      have k3' : er n f := k3
      exact ⟨false, by rw [e1]; exact hm2, (fun z => nomatch z), fun _ => hx F H cv dd n f w gr k3' hc⟩
/-- two clauses, both with a name -/
theorem aw_try2n (fx : XF A K xn) (hx : RaiseW A C B F0 e er) (h : joinW g (fun n f => catchW xn n J (f = none ∧ Hf n) (catchW xn n J2 (f = none ∧ Hf2 n) (er n f))))
    (hb : ∀ xr W, RaiseT A C B F0 Γ (WE W) xr → g xr → At C B F0 Γ (tb W D))
    (hs : ∀ n a D', D'.rt = D.rt → Hf n → At C B F0 (Γ.set i (.ref a)) (ts a (.ref (A n)) none D'))
    (hs2 : ∀ n a D', D'.rt = D.rt → Hf2 n → At C B F0 (Γ.set i2 (.ref a)) (ts2 a (.ref (A n)) none D')) :
    At C B F0 Γ (tTryC K [(.ref (A J), some i, ts), (.ref (A J2), some i2, ts2)] (fun cls d _ H => e cls d H) tb D) := by
  refine hb _ (wCls K (fun cls d _ H => e cls d H) D [(.ref (A J), some i, ts), (.ref (A J2), some i2, ts2)]) (fun F H σ cv dd n f w gr gm hxx hc => ?_) h
  obtain ⟨h1, h2, h3⟩ := hxx
  have hm := fx.exm n h1 J h2
  have e1 : cv = .ref (A n) := hc.1
  cases hsub : subX n J with
  | true =>
    rw [hsub] at h3 hm
    obtain ⟨rfl, hH⟩ : f = none ∧ Hf n := h3
    obtain ⟨rfl, hd⟩ := hc
    have hd' : dd = none := hd
    subst hd'
    exact ⟨true, hm, fun _ a ha => hs n a (goneE i D) rfl hH F H _ w gr (gm.set (s := .ref a) rfl fun _ z => nomatch z), fun z => nomatch z⟩
  | false =>
    rw [hsub] at h3 hm
    obtain ⟨_, k2, k3⟩ : catchW xn n J2 (f = none ∧ Hf2 n) (er n f) := h3
    have hm2 := fx.exm n h1 J2 k2
    refine ⟨false, by rw [e1]; exact hm, (fun z => nomatch z), fun _ => ?_⟩
    cases hsub2 : subX n J2 with
    | true =>
      rw [hsub2] at k3 hm2
      obtain ⟨rfl, hH⟩ : f = none ∧ Hf2 n := k3
      obtain ⟨rfl, hd⟩ := hc
      have hd' : dd = none := hd
      subst hd'
      exact ⟨true, hm2, fun _ a ha => hs2 n a (goneE i2 D) rfl hH F H _ w gr (gm.set (s := .ref a) rfl fun _ z => nomatch z), fun z => nomatch z⟩
    | false =>
      rw [hsub2] at k3 hm2
      have k3' : er n f := k3
      exact ⟨false, by rw [e1]; exact hm2, (fun z => nomatch z), fun _ => hx F H cv dd n f w gr k3' hc⟩
end
end Eh

namespace Eh
open PySem PySem.Spec PyProof.Rows L2
variable {A : Str → Addr} {K : PySem.W.Frag} {w : World}
def xn : List Str := ["JointError", "BadNumber", "BadWorlds", "NotThere", "BadRow"]
abbrev N_numbered : List Str := ["sight", "world"]
def t_numbered (K : PySem.W.Frag) (w : World) (sp_possible : Sp) (E : XK) : TS :=
  (tRet (tThen (tLc (iRng1 (tCons (tCB (rLenA K) (tCons (tVar 0) tNil)) tNil)) (gName 1) tYes (tOp (rIx K) (tCall sp_possible [] E0 (tCons (tVar 0) (tCons (tVar 1) tNil))) (tC (.int 0))) [1]) (kTup K)))
@[irreducible] def W_numbered (sight : PyData) (rt : PyData → Prop) (er : XP) : Prop :=
  seqW sight fun l1 => lenW l1 fun t1 => rngW t1 fun it1 => lcMW it1 (fun world Y => W_possible sight world (fun t2 => seqW t2 fun l2 => ixW l2 (.int 0) fun t3 => Y t3) noX) fun l3 => tupW l3 fun t4 => rt t4
theorem P_numbered (vs : List V) (H : Hp) (Q : VK) (E : XK) (h : spF A (vl1 W_numbered) vs H Q E) : t_numbered K w (spF A (vl2 W_possible)) E { nx := fun _ H' => Q .non H', rt := Q } (L2.start N_numbered vs) H :=
  spF_body (N := N_numbered) (t := fun E => t_numbered K w (spF A (vl2 W_possible)) E) h fun ds rt er B F0 D hW hr hx hn => by
    obtain ⟨sight, rfl, h⟩ := vl1_inv hW
    unfold W_numbered at h
    show At pc0 B F0 [.dat sight, .no] (t_numbered K w (spF A (vl2 W_possible)) E D)
    exact aw_ret hr (ew_tupleL (Nw.ls (nw_lcM (Fw.it (fw_rng1 (ew_len (Ew.s (ew_var rfl))))) (fun x Y h => ⟨_, _, tg_name (by decide), (ew_ix (Ew.s (ew_call (aw_cons (ew_var rfl) (aw_cons (ew_var rfl) aw_nil)))) ew_int), h⟩)))) (RaiseW.tt0 hx) h
abbrev N_answers_at : List Str := ["sights", "events", "world", "found", "sight", "event", "others", "other"]
def t_answers_at (K : PySem.W.Frag) (w : World) (sp_known_at : Sp) (E : XK) : TS :=
  (tSeq (tAsg (tLst tNil) (gName 3))
    (tSeq (tFor (iZipM K (tCons (tVar 0) (tCons (tVar 1) tNil))) (gTup K 2 (gCons (gName 4) (gCons (gName 5) gNil))) (tSeq (tAsg (tThen (tLc (iRng1 (tCons (tCB (rLenA K) (tCons (tVar 4) tNil)) tNil)) (gName 7) (tTest (tOp (rNiA K) (tVar 7) (tVar 5))) (tVar 7) [7]) (kTup K)) (gName 6))
    (tDrop (tBM K "list" rAppend (tVar 3) (tCons (tCB rIntA (tCons (tOrV (tOp (rInA K) (tVar 2) (tCall sp_known_at [] E (tCons (tVar 4) (tCons (tVar 5) tNil)))) (tOp (rInA K) (tVar 2) (tCall sp_known_at [] E (tCons (tVar 4) (tCons (tVar 6) tNil))))) tNil)) tNil)))))
    (tRet (tThen (tVar 3) (kTup K)))))
@[irreducible] def W_answers_at (sights : PyData) (events : PyData) (world : PyData) (rt : PyData → Prop) (er : XP) : Prop :=
  dispL [] fun found => seqW sights fun l2 => seqW events fun l3 => letW (zipD l2 l3) fun it1 => forW (σ := List PyData) (fun x1 s nx bk => un2W x1 fun sight event => seqW sight fun l4 => lenW l4 fun t1 => rngW t1 fun it2 => lcW it2 (fun other Y N => seqW event fun l5 => niW other l5 fun t2 => boolW t2 fun b1 => iteW b1 (Y other) N) fun l6 => tupW l6 fun others => orVW (fun k1 => W_known_at sight event (fun t4 => seqW t4 fun l7 => inW world l7 fun t5 => k1 t5) er) (fun k2 => W_known_at sight others (fun t6 => seqW t6 fun l8 => inW world l8 fun t7 => k2 t7) er) fun t8 => cintW t8 fun t9 => appW s t9 fun found2 => nx found2) (fun s => tupW s fun t10 => rt t10) it1 found
theorem P_answers_at (vs : List V) (H : Hp) (Q : VK) (E : XK) (h : spF A (vl3 W_answers_at) vs H Q E) : t_answers_at K w (spF A (vl2 W_known_at)) E { nx := fun _ H' => Q .non H', rt := Q } (L2.start N_answers_at vs) H :=
  spF_body (N := N_answers_at) (t := fun E => t_answers_at K w (spF A (vl2 W_known_at)) E) h fun ds rt er B F0 D hW hr hx hn => by
    obtain ⟨sights, events, world, rfl, h⟩ := vl3_inv hW
    unfold W_answers_at at h
    show At pc0 B F0 [.dat sights, .dat events, .dat world, .no, .no, .no, .no, .no] (t_answers_at K w (spF A (vl2 W_known_at)) E D)
    refine aw_seq ?_
    refine aw_asgN (Γ' := fun found => [.dat sights, .dat events, .dat world, .own found, .no, .no, .no, .no]) (fun _ => rfl) (nw_lst aw_nil) (RaiseW.tt0 hx) h (fun found h => ?_)
    refine aw_seq ?_
    refine aw_for (σT := List PyData) (vs := [4, 5]) (fun s => [.dat sights, .dat events, .dat world, .own s, .no, .no, .no, .no]) (.keep (.keep (.keep (.keep (.keep (.keep (.keep (.keep .nil)))))))) (fw_zip (ew_var rfl) (ew_var rfl)) (fun F0 D => RetOk pc0 B F0 D rt) (rok_chain hr) hx h (fun F0 x1 s nx bk D hr hx hn hc hb h => ?_) (fun s h => ?_)
    · obtain ⟨sight, event, h, tg⟩ := tg_un2 (vs := [4, 5]) (i := 4) (j := 5) (by decide) (by decide) h
      refine ⟨[.dat sights, .dat events, .dat world, .own s, .dat sight, .dat event, .no, .no], tg, ?_⟩
      refine aw_seq ?_
      refine aw_asg (Γ' := fun others => [.dat sights, .dat events, .dat world, .own s, .dat sight, .dat event, .dat others, .no]) (fun _ => rfl) (ew_tupleL (Nw.ls (nw_lc (Fw.it (fw_rng1 (ew_len (Ew.s (ew_var rfl))))) (fun x Y N h => ⟨_, _, _, tg_name (by decide), (tw_test (ew_ni (ew_var rfl) (Ew.s (ew_var rfl)))), (ew_var rfl), h⟩)))) (RaiseW.tt0 hx) h (fun others h => ?_)
      refine aw_append (Γ' := fun found2 => [.dat sights, .dat events, .dat world, .own found2, .dat sight, .dat event, .dat others, .no]) rfl (fun _ => rfl) (ew_cint (ew_orV (ew_in (ew_var rfl) (Ew.s (ew_call (aw_cons (ew_var rfl) (aw_cons (ew_var rfl) aw_nil))))) (ew_in (ew_var rfl) (Ew.s (ew_call (aw_cons (ew_var rfl) (aw_cons (ew_var rfl) aw_nil))))))) (RaiseW.tt0 hx) h (fun found2 h => ?_)
      exact at_wk (.keep (.keep (.keep (.keep (.drop (.drop (.drop (.keep .nil)))))))) (hn _ h)
    · exact aw_ret hr (ew_tupleL (lw_own rfl)) (RaiseW.tt0 hx) h
abbrev N_heard : List Str := ["sights", "rows", "found", "sight", "pairs", "number", "row", "pair"]
def t_heard (K : PySem.W.Frag) (w : World) (E : XK) : TS :=
  (tSeq (tAsg (tLst tNil) (gName 2))
    (tSeq (tFor (iSeq K (tVar 0)) (gName 3) (tSeq (tAsg (tLc (iZipM K (tCons (tVar 3) (tCons (tVar 1) tNil))) (gTup K 2 (gCons (gName 5) (gCons (gName 6) gNil))) tYes (tTup (tCons (tVar 5) (tCons (tVar 6) tNil))) [5, 6]) (gName 4))
    (tDrop (tBM K "list" rAppend (tVar 2) (tCons (tThen (tLc (iSeq K (tVar 4)) (gName 7) tYes (tBM K "list" (rIndexD K) (tVar 4) (tCons (tVar 7) tNil)) [7]) (kTup K)) tNil)))))
    (tRet (tVar 2))))
@[irreducible] def W_heard (sights : PyData) (rows : PyData) (rt : List PyData → Prop) (er : XP) : Prop :=
  dispL [] fun found => seqW sights fun l2 => forW (σ := List PyData) (fun sight s nx bk => seqW sight fun l3 => seqW rows fun l4 => letW (zipD l3 l4) fun it2 => lcMW it2 (fun x1 Y => un2W x1 fun number row => dispT [number, row] fun t1 => Y t1) fun l5 => fzW l5 fun pairs => seqW pairs fun l6 => lcMW l6 (fun pair Y2 => lstW pairs fun l7 => idxW l7 pair fun t3 => Y2 t3) fun l8 => tupW l8 fun t4 => appW s t4 fun found2 => nx found2) (fun s => rt s) l2 found
theorem P_heard (vs : List V) (H : Hp) (Q : VK) (E : XK) (h : spFN A (vl2 W_heard) vs H Q E) : t_heard K w E { nx := fun _ H' => Q .non H', rt := Q } (L2.start N_heard vs) H :=
  spFN_body (N := N_heard) (t := fun E => t_heard K w E) h fun ds rt er B F0 D hW hr hx => by
    obtain ⟨sights, rows, rfl, h⟩ := vl2_inv hW
    unfold W_heard at h
    show At pc0 B F0 [.dat sights, .dat rows, .no, .no, .no, .no, .no, .no] (t_heard K w E D)
    refine aw_seq ?_
    refine aw_asgN (Γ' := fun found => [.dat sights, .dat rows, .own found, .no, .no, .no, .no, .no]) (fun _ => rfl) (nw_lst aw_nil) (RaiseW.tt0 hx) h (fun found h => ?_)
    refine aw_seq ?_
    refine aw_for (σT := List PyData) (vs := [3]) (fun s => [.dat sights, .dat rows, .own s, .no, .no, .no, .no, .no]) (.keep (.keep (.keep (.keep (.keep (.keep (.keep (.keep .nil)))))))) (fw_seq (ew_var rfl)) (fun F0 D => RetN pc0 B F0 D rt) (ron_chain hr) hx h (fun F0 sight s nx bk D hr hx hn hc hb h => ?_) (fun s h => ?_)
    · refine ⟨[.dat sights, .dat rows, .own s, .dat sight, .no, .no, .no, .no], tg_name (by decide), ?_⟩
      refine aw_seq ?_
      refine aw_asg (Γ' := fun pairs => [.dat sights, .dat rows, .own s, .dat sight, .dat pairs, .no, .no, .no]) (fun _ => rfl) (Nw.fz (nw_lcM (Fw.it (fw_zip (ew_var rfl) (ew_var rfl))) (fun x Y h => by obtain ⟨_, _, h, tg⟩ := tg_un2 (vs := [5, 6]) (i := 5) (j := 6) (by decide) (by decide) h; exact ⟨_, _, tg, (ew_tup (aw_cons (ew_var rfl) (aw_cons (ew_var rfl) aw_nil))), h⟩))) (RaiseW.tt0 hx) h (fun pairs h => ?_)
      refine aw_append (Γ' := fun found2 => [.dat sights, .dat rows, .own found2, .dat sight, .dat pairs, .no, .no, .no]) rfl (fun _ => rfl) (ew_tupleL (Nw.ls (nw_lcM (iw_seq (Ew.s (ew_var rfl))) (fun x Y h => ⟨_, _, tg_name (by decide), (ew_index (Ew.ls (ew_var rfl)) (ew_var rfl)), h⟩)))) (RaiseW.tt0 hx) h (fun found2 h => ?_)
      exact at_wk (.keep (.keep (.keep (.drop (.drop (.keep (.keep (.keep .nil)))))))) (hn _ h)
    · exact aw_retO hr rfl h
abbrev N_all_rounds : List Str := ["sights", "events", "rounds", "rows", "finer", "sight", "world"]
def t_all_rounds (K : PySem.W.Frag) (w : World) (sp_answers_at : Sp) (sp_heard : Sp) (sp_numbered : Sp) (E : XK) : TS :=
  (tSeq (tAsg (tLc (iSeq K (tVar 0)) (gName 5) tYes (tCall sp_numbered [] E0 (tCons (tVar 5) tNil)) [5]) (gName 0))
    (tSeq (tAsg (tLst tNil) (gName 2))
    (tWhile (tB (tC (.bl true))) (tSeq (tAsg (tLc (iRng1 (tCons (tCB (rLenA K) (tCons (tOp (rIx K) (tVar 0) (tC (.int 0))) tNil)) tNil)) (gName 6) tYes (tCall sp_answers_at [] E0 (tCons (tVar 0) (tCons (tVar 1) (tCons (tVar 6) tNil)))) [6]) (gName 3))
    (tSeq (tDrop (tBM K "list" rAppend (tVar 2) (tCons (tVar 3) tNil)))
    (tSeq (tAsg (tCall sp_heard [] E (tCons (tVar 0) (tCons (tVar 3) tNil))) (gName 4))
    (tSeq (tIfS (tTest (tOp (rEqA K) (tVar 4) (tVar 0))) (tRet (tTup (tCons (tVar 2) (tCons (tVar 0) tNil)))) tNext)
    (tAsg (tVar 4) (gName 0)))))))))
@[irreducible] def W_all_rounds (sights : PyData) (events : PyData) (rt : PyData → Prop) (er : XP) : Prop :=
  seqW sights fun l1 => lcMW l1 (fun sight Y => W_numbered sight (fun t1 => Y t1) noX) fun l2 => fzW l2 fun sights2 => dispL [] fun rounds => whileW (σ := List PyData × PyData) (rounds, sights2) (fun s k1 => boolW (.bool true) fun b1 => k1 b1) (fun s nx bk => seqW s.2 fun l4 => ixW l4 (.int 0) fun t3 => seqW t3 fun l5 => lenW l5 fun t4 => rngW t4 fun it2 => lcMW it2 (fun world Y2 => W_answers_at s.2 events world (fun t5 => Y2 t5) noX) fun l6 => fzW l6 fun rows => appW s.1 rows fun rounds2 => W_heard s.2 rows (fun l7 => fzW l7 fun finer => eqW finer s.2 fun t8 => boolW t8 fun b2 => iteW b2 (dispT [(.list rounds2), s.2] fun t9 => rt t9) (letW finer fun sights3 => nx (rounds2, sights3))) er) (fun s => rt .none)
theorem P_all_rounds (vs : List V) (H : Hp) (Q : VK) (E : XK) (h : spF A (vl2 W_all_rounds) vs H Q E) : t_all_rounds K w (spF A (vl3 W_answers_at)) (spFN A (vl2 W_heard)) (spF A (vl1 W_numbered)) E { nx := fun _ H' => Q .non H', rt := Q } (L2.start N_all_rounds vs) H :=
  spF_body (N := N_all_rounds) (t := fun E => t_all_rounds K w (spF A (vl3 W_answers_at)) (spFN A (vl2 W_heard)) (spF A (vl1 W_numbered)) E) h fun ds rt er B F0 D hW hr hx hn => by
    obtain ⟨sights, events, rfl, h⟩ := vl2_inv hW
    unfold W_all_rounds at h
    show At pc0 B F0 [.dat sights, .dat events, .no, .no, .no, .no, .no] (t_all_rounds K w (spF A (vl3 W_answers_at)) (spFN A (vl2 W_heard)) (spF A (vl1 W_numbered)) E D)
    refine aw_seq ?_
    refine aw_asg (Γ' := fun sights2 => [.dat sights2, .dat events, .no, .no, .no, .no, .no]) (fun _ => rfl) (Nw.fz (nw_lcM (iw_seq (Ew.s (ew_var rfl))) (fun x Y h => ⟨_, _, tg_name (by decide), (ew_call (aw_cons (ew_var rfl) aw_nil)), h⟩))) (RaiseW.tt0 hx) h (fun sights2 h => ?_)
    refine aw_seq ?_
    refine aw_asgN (Γ' := fun rounds => [.dat sights2, .dat events, .own rounds, .no, .no, .no, .no]) (fun _ => rfl) (nw_lst aw_nil) (RaiseW.tt0 hx) h (fun rounds h => ?_)
    refine aw_while (σT := List PyData × PyData) (X := er) (fun s => [.dat s.2, .dat events, .own s.1, .no, .no, .no, .no]) (.keep (.keep (.keep (.keep (.keep (.keep (.keep .nil))))))) (fun F0 D => RetOk pc0 B F0 D rt) (rok_chain hr) hx h (fun s => ⟨_, (tw_B ew_bl), fun _ h => h⟩) (fun F0 s nx bk D hr hx hn hc hb h => ?_) (fun s h => ?_)
    · refine aw_seq ?_
      refine aw_asg (Γ' := fun rows => [.dat s.2, .dat events, .own s.1, .dat rows, .no, .no, .no]) (fun _ => rfl) (Nw.fz (nw_lcM (Fw.it (fw_rng1 (ew_len (Ew.s (ew_ix (Ew.s (ew_var rfl)) ew_int))))) (fun x Y h => ⟨_, _, tg_name (by decide), (ew_call (aw_cons (ew_var rfl) (aw_cons (ew_var rfl) (aw_cons (ew_var rfl) aw_nil)))), h⟩))) (RaiseW.tt0 hx) h (fun rows h => ?_)
      refine aw_seq ?_
      refine aw_append (Γ' := fun rounds2 => [.dat s.2, .dat events, .own rounds2, .dat rows, .no, .no, .no]) rfl (fun _ => rfl) (ew_var rfl) (RaiseW.tt0 hx) h (fun rounds2 h => ?_)
      refine aw_seq ?_
      refine aw_asg (Γ' := fun finer => [.dat s.2, .dat events, .own rounds2, .dat rows, .dat finer, .no, .no]) (fun _ => rfl) (Nw.fz (nw_call (aw_cons (ew_var rfl) (aw_cons (ew_var rfl) aw_nil)))) (RaiseW.tt0 hx) h (fun finer h => ?_)
      refine aw_seq ?_
      refine aw_if (tw_test (ew_op ov_eq (ew_var rfl) (ew_var rfl))) (RaiseW.tt0 hx) h (fun h => ?_) (fun h => ?_)
      · refine at_frz 2 rfl ?_
        show At pc0 B F0 [.dat s.2, .dat events, .dat (.list rounds2), .dat rows, .dat finer, .no, .no] _
        exact aw_ret hr (ew_tup (aw_cons (ew_var rfl) (aw_cons (ew_var rfl) aw_nil))) (RaiseW.tt0 hx) h
      · refine aw_next ?_
        refine aw_asg (Γ' := fun sights3 => [.dat sights3, .dat events, .own rounds2, .dat rows, .dat finer, .no, .no]) (fun _ => rfl) (ew_let (ew_var rfl)) (RaiseW.tt0 hx) h (fun sights3 h => ?_)
        exact at_wk (.keep (.keep (.keep (.drop (.drop (.keep (.keep .nil))))))) (hn _ h)
    · exact hn h _
abbrev N_asked : List Str := ["sights", "event", "world", "rows", "rounds", "_", "answers"]
def t_asked (K : PySem.W.Frag) (w : World) (sp_all_rounds : Sp) (sp_check_event : Sp) (sp_check_number : Sp) (sp_check_sights : Sp) (E : XK) : TS :=
  (tSeq (tAsg (tCall sp_check_sights [] E (tCons (tVar 0) tNil)) (gName 3))
    (tSeq (tDrop (tCall sp_check_event [] E (tCons (tVar 3) (tCons (tVar 1) tNil))))
    (tSeq (tDrop (tCall sp_check_number [] E (tCons (tVar 2) (tCons (tC (.int 0)) (tCons (tOp rSubI (tCB (rLenA K) (tCons (tOp (rIx K) (tVar 3) (tC (.int 0))) tNil)) (tC (.int 1))) tNil)))))
    (tSeq (tAsg (tCall sp_all_rounds [] E (tCons (tVar 3) (tCons (tOp (rMulA K) (tLst (tCons (tVar 1) tNil)) (tCB (rLenA K) (tCons (tVar 3) tNil))) tNil))) (gTup K 2 (gCons (gName 4) (gCons (gName 5) gNil))))
    (tRet (tThen (tLc (iSeq K (tVar 4)) (gName 6) tYes (tOp (rIx K) (tVar 6) (tVar 2)) [6]) (kTup K)))))))
@[irreducible] def W_asked (sights : PyData) (event : PyData) (world : PyData) (rt : PyData → Prop) (er : XP) : Prop :=
  W_check_sights sights (fun l1 => fzW l1 fun rows => W_check_event rows event (fun t2 => seqW rows fun l2 => ixW l2 (.int 0) fun t4 => seqW t4 fun l3 => lenW l3 fun t5 => subW t5 (.int 1) fun t6 => W_check_number world (.int 0) t6 (fun t3 => dispL [event] fun l4 => seqW rows fun l5 => lenW l5 fun t8 => mulLW l4 t8 fun l6 => fzW l6 fun t9 => W_all_rounds rows t9 (fun t7 => un2W t7 fun rounds v => seqW rounds fun l7 => lcMW l7 (fun answers Y => seqW answers fun l8 => ixW l8 world fun t10 => Y t10) fun l9 => tupW l9 fun t11 => rt t11) er) er) er) er
theorem P_asked (vs : List V) (H : Hp) (Q : VK) (E : XK) (h : spF A (vl3 W_asked) vs H Q E) : t_asked K w (spF A (vl2 W_all_rounds)) (spF A (vl2 W_check_event)) (spF A (vl3 W_check_number)) (spFN A (vl1 W_check_sights)) E { nx := fun _ H' => Q .non H', rt := Q } (L2.start N_asked vs) H :=
  spF_body (N := N_asked) (t := fun E => t_asked K w (spF A (vl2 W_all_rounds)) (spF A (vl2 W_check_event)) (spF A (vl3 W_check_number)) (spFN A (vl1 W_check_sights)) E) h fun ds rt er B F0 D hW hr hx hn => by
    obtain ⟨sights, event, world, rfl, h⟩ := vl3_inv hW
    unfold W_asked at h
    show At pc0 B F0 [.dat sights, .dat event, .dat world, .no, .no, .no, .no] (t_asked K w (spF A (vl2 W_all_rounds)) (spF A (vl2 W_check_event)) (spF A (vl3 W_check_number)) (spFN A (vl1 W_check_sights)) E D)
    refine aw_seq ?_
    refine aw_asg (Γ' := fun rows => [.dat sights, .dat event, .dat world, .dat rows, .no, .no, .no]) (fun _ => rfl) (Nw.fz (nw_call (aw_cons (ew_var rfl) aw_nil))) (RaiseW.tt0 hx) h (fun rows h => ?_)
    refine aw_seq ?_
    refine aw_drop (ew_call (aw_cons (ew_var rfl) (aw_cons (ew_var rfl) aw_nil))) (RaiseW.tt0 hx) h (fun _ h => ?_)
    refine aw_seq ?_
    refine aw_drop (ew_call (aw_cons (ew_var rfl) (aw_cons ew_int (aw_cons (ew_op ov_sub (ew_len (Ew.s (ew_ix (Ew.s (ew_var rfl)) ew_int))) ew_int) aw_nil)))) (RaiseW.tt0 hx) h (fun _ h => ?_)
    refine aw_seq ?_
    refine aw_unp2 (Γ' := fun rounds v => [.dat sights, .dat event, .dat world, .dat rows, .dat rounds, .dat v, .no]) (fun _ _ => rfl) (ew_call (aw_cons (ew_var rfl) (aw_cons (Nw.fz (nw_mul (Nw.ls (nw_lst (aw_cons (ew_var rfl) aw_nil))) (ew_len (Ew.s (ew_var rfl))))) aw_nil))) (RaiseW.tt0 hx) h (fun rounds v h => ?_)
    exact aw_ret hr (ew_tupleL (Nw.ls (nw_lcM (iw_seq (Ew.s (ew_var rfl))) (fun x Y h => ⟨_, _, tg_name (by decide), (ew_ix (Ew.s (ew_var rfl)) (ew_var rfl)), h⟩)))) (RaiseW.tt0 hx) h
abbrev N_parted : List Str := ["sights", "event", "rows"]
def t_parted (K : PySem.W.Frag) (w : World) (sp_all_rounds : Sp) (sp_check_event : Sp) (sp_check_sights : Sp) (E : XK) : TS :=
  (tSeq (tAsg (tCall sp_check_sights [] E (tCons (tVar 0) tNil)) (gName 2))
    (tSeq (tDrop (tCall sp_check_event [] E (tCons (tVar 2) (tCons (tVar 1) tNil))))
    (tRet (tThen (tOp (rIx K) (tCall sp_all_rounds [] E (tCons (tVar 2) (tCons (tOp (rMulA K) (tLst (tCons (tVar 1) tNil)) (tCB (rLenA K) (tCons (tVar 2) tNil))) tNil))) (tC (.int 1))) (kTup K)))))
@[irreducible] def W_parted (sights : PyData) (event : PyData) (rt : PyData → Prop) (er : XP) : Prop :=
  W_check_sights sights (fun l1 => fzW l1 fun rows => W_check_event rows event (fun t2 => dispL [event] fun l2 => seqW rows fun l3 => lenW l3 fun t4 => mulLW l2 t4 fun l4 => fzW l4 fun t5 => W_all_rounds rows t5 (fun t3 => seqW t3 fun l5 => ixW l5 (.int 1) fun t6 => seqW t6 fun l6 => tupW l6 fun t7 => rt t7) er) er) er
theorem P_parted (vs : List V) (H : Hp) (Q : VK) (E : XK) (h : spF A (vl2 W_parted) vs H Q E) : t_parted K w (spF A (vl2 W_all_rounds)) (spF A (vl2 W_check_event)) (spFN A (vl1 W_check_sights)) E { nx := fun _ H' => Q .non H', rt := Q } (L2.start N_parted vs) H :=
  spF_body (N := N_parted) (t := fun E => t_parted K w (spF A (vl2 W_all_rounds)) (spF A (vl2 W_check_event)) (spFN A (vl1 W_check_sights)) E) h fun ds rt er B F0 D hW hr hx hn => by
    obtain ⟨sights, event, rfl, h⟩ := vl2_inv hW
    unfold W_parted at h
    show At pc0 B F0 [.dat sights, .dat event, .no] (t_parted K w (spF A (vl2 W_all_rounds)) (spF A (vl2 W_check_event)) (spFN A (vl1 W_check_sights)) E D)
    refine aw_seq ?_
    refine aw_asg (Γ' := fun rows => [.dat sights, .dat event, .dat rows]) (fun _ => rfl) (Nw.fz (nw_call (aw_cons (ew_var rfl) aw_nil))) (RaiseW.tt0 hx) h (fun rows h => ?_)
    refine aw_seq ?_
    refine aw_drop (ew_call (aw_cons (ew_var rfl) (aw_cons (ew_var rfl) aw_nil))) (RaiseW.tt0 hx) h (fun _ h => ?_)
    exact aw_ret hr (ew_tupleD (ew_ix (Ew.s (ew_call (aw_cons (ew_var rfl) (aw_cons (Nw.fz (nw_mul (Nw.ls (nw_lst (aw_cons (ew_var rfl) aw_nil))) (ew_len (Ew.s (ew_var rfl))))) aw_nil)))) ew_int)) (RaiseW.tt0 hx) h
abbrev N__law_answers : List Str := ["sights", "past", "event", "answers", "w", "row", "sight", "left", "many", "u"]
def t__law_answers (K : PySem.W.Frag) (w : World) (E : XK) : TS :=
  (tSeq (tAsg (tLst tNil) (gName 3))
    (tSeq (tFor (iRng1 (tCons (tCB (rLenA K) (tCons (tVar 1) tNil)) tNil)) (gName 4) (tSeq (tAsg (tLst tNil) (gName 5))
    (tSeq (tFor (iSeq K (tVar 0)) (gName 6) (tSeq (tAsg (tLc (iRng1 (tCons (tCB (rLenA K) (tCons (tVar 1) tNil)) tNil)) (gName 9) (tAnd (tTest (tOp (rEqA K) (tOp (rIx K) (tVar 6) (tVar 9)) (tOp (rIx K) (tVar 6) (tVar 4)))) (tTest (tOp (rEqA K) (tOp (rIx K) (tVar 1) (tVar 9)) (tOp (rIx K) (tVar 1) (tVar 4))))) (tVar 9) [9]) (gName 7))
    (tSeq (tAsg (tCB (rLenA K) (tCons (tLc (iSeq K (tVar 7)) (gName 9) (tTest (tOp (rInA K) (tVar 9) (tVar 2))) (tVar 9) [9]) tNil)) (gName 8))
    (tIfS (tOr (tTest (tOp (rEqA K) (tVar 8) (tC (.int 0)))) (tTest (tOp (rEqA K) (tVar 8) (tCB (rLenA K) (tCons (tVar 7) tNil))))) (tDrop (tBM K "list" rAppend (tVar 5) (tCons (tC (.int 1)) tNil))) (tDrop (tBM K "list" rAppend (tVar 5) (tCons (tC (.int 0)) tNil)))))))
    (tDrop (tBM K "list" rAppend (tVar 3) (tCons (tThen (tVar 5) (kTup K)) tNil))))))
    (tRet (tVar 3))))
@[irreducible] def W__law_answers (sights : PyData) (past : PyData) (event : PyData) (rt : List PyData → Prop) (er : XP) : Prop :=
  dispL [] fun answers => seqW past fun l2 => lenW l2 fun t1 => rngW t1 fun it1 => forW (σ := List PyData) (fun w_ s nx bk => dispL [] fun row => seqW sights fun l4 => forW (σ := List PyData) (fun sight s_2 nx bk => seqW past fun l5 => lenW l5 fun t2 => rngW t2 fun it3 => lcW it3 (fun u Y N => andW (fun k1 => seqW sight fun l6 => ixW l6 u fun t3 => seqW sight fun l7 => ixW l7 w_ fun t4 => eqW t3 t4 fun t5 => boolW t5 fun b1 => k1 b1) (fun k2 => seqW past fun l8 => ixW l8 u fun t6 => seqW past fun l9 => ixW l9 w_ fun t7 => eqW t6 t7 fun t8 => boolW t8 fun b2 => k2 b2) fun b3 => iteW b3 (Y u) N) fun l10 => fzW l10 fun left => seqW left fun l11 => lcW l11 (fun u2 Y2 N2 => seqW event fun l12 => inW u2 l12 fun t10 => boolW t10 fun b4 => iteW b4 (Y2 u2) N2) fun l13 => lenW l13 fun many => orW (fun k3 => eqW many (.int 0) fun t12 => boolW t12 fun b5 => k3 b5) (fun k4 => seqW left fun l14 => lenW l14 fun t13 => eqW many t13 fun t14 => boolW t14 fun b6 => k4 b6) fun b7 => iteW b7 (appW s_2 (.int 1) fun row2 => nx row2) (appW s_2 (.int 0) fun row3 => nx row3)) (fun s_2 => tupW s_2 fun t15 => appW s t15 fun answers2 => nx answers2) l4 row) (fun s => rt s) it1 answers
theorem P__law_answers (vs : List V) (H : Hp) (Q : VK) (E : XK) (h : spFN A (vl3 W__law_answers) vs H Q E) : t__law_answers K w E { nx := fun _ H' => Q .non H', rt := Q } (L2.start N__law_answers vs) H :=
  spFN_body (N := N__law_answers) (t := fun E => t__law_answers K w E) h fun ds rt er B F0 D hW hr hx => by
    obtain ⟨sights, past, event, rfl, h⟩ := vl3_inv hW
    unfold W__law_answers at h
    show At pc0 B F0 [.dat sights, .dat past, .dat event, .no, .no, .no, .no, .no, .no, .no] (t__law_answers K w E D)
    refine aw_seq ?_
    refine aw_asgN (Γ' := fun answers => [.dat sights, .dat past, .dat event, .own answers, .no, .no, .no, .no, .no, .no]) (fun _ => rfl) (nw_lst aw_nil) (RaiseW.tt0 hx) h (fun answers h => ?_)
    refine aw_seq ?_
    refine aw_for (σT := List PyData) (vs := [4]) (fun s => [.dat sights, .dat past, .dat event, .own s, .no, .no, .no, .no, .no, .no]) (.keep (.keep (.keep (.keep (.keep (.keep (.keep (.keep (.keep (.keep .nil)))))))))) (fw_rng1 (ew_len (Ew.s (ew_var rfl)))) (fun F0 D => RetN pc0 B F0 D rt) (ron_chain hr) hx h (fun F0 w_ s nx bk D hr hx hn hc hb h => ?_) (fun s h => ?_)
    · refine ⟨[.dat sights, .dat past, .dat event, .own s, .dat w_, .no, .no, .no, .no, .no], tg_name (by decide), ?_⟩
      refine aw_seq ?_
      refine aw_asgN (Γ' := fun row => [.dat sights, .dat past, .dat event, .own s, .dat w_, .own row, .no, .no, .no, .no]) (fun _ => rfl) (nw_lst aw_nil) (RaiseW.tt0 hx) h (fun row h => ?_)
      refine aw_seq ?_
      refine aw_for (σT := List PyData) (vs := [6]) (fun s_2 => [.dat sights, .dat past, .dat event, .own s, .dat w_, .own s_2, .no, .no, .no, .no]) (.keep (.keep (.keep (.keep (.keep (.keep (.keep (.keep (.keep (.keep .nil)))))))))) (fw_seq (ew_var rfl)) (fun F0 D => RetN pc0 B F0 D rt) (ron_chain hr) hx h (fun F0 sight s_2 nx bk D hr hx hn hc hb h => ?_) (fun s_2 h => ?_)
      · refine ⟨[.dat sights, .dat past, .dat event, .own s, .dat w_, .own s_2, .dat sight, .no, .no, .no], tg_name (by decide), ?_⟩
        refine aw_seq ?_
        refine aw_asg (Γ' := fun left => [.dat sights, .dat past, .dat event, .own s, .dat w_, .own s_2, .dat sight, .dat left, .no, .no]) (fun _ => rfl) (Nw.fz (nw_lc (Fw.it (fw_rng1 (ew_len (Ew.s (ew_var rfl))))) (fun x Y N h => ⟨_, _, _, tg_name (by decide), (tw_and (tw_test (ew_op ov_eq (ew_ix (Ew.s (ew_var rfl)) (ew_var rfl)) (ew_ix (Ew.s (ew_var rfl)) (ew_var rfl)))) (tw_test (ew_op ov_eq (ew_ix (Ew.s (ew_var rfl)) (ew_var rfl)) (ew_ix (Ew.s (ew_var rfl)) (ew_var rfl))))), (ew_var rfl), h⟩))) (RaiseW.tt0 hx) h (fun left h => ?_)
        refine aw_seq ?_
        refine aw_asg (Γ' := fun many => [.dat sights, .dat past, .dat event, .own s, .dat w_, .own s_2, .dat sight, .dat left, .dat many, .no]) (fun _ => rfl) (ew_len (Nw.s (nw_lc (iw_seq (Ew.s (ew_var rfl))) (fun x Y N h => ⟨_, _, _, tg_name (by decide), (tw_test (ew_in (ew_var rfl) (Ew.s (ew_var rfl)))), (ew_var rfl), h⟩)))) (RaiseW.tt0 hx) h (fun many h => ?_)
        refine aw_if (tw_or (tw_test (ew_op ov_eq (ew_var rfl) ew_int)) (tw_test (ew_op ov_eq (ew_var rfl) (ew_len (Ew.s (ew_var rfl)))))) (RaiseW.tt0 hx) h (fun h => ?_) (fun h => ?_)
        · refine aw_append (Γ' := fun row2 => [.dat sights, .dat past, .dat event, .own s, .dat w_, .own row2, .dat sight, .dat left, .dat many, .no]) rfl (fun _ => rfl) ew_int (RaiseW.tt0 hx) h (fun row2 h => ?_)
          exact at_wk (.keep (.keep (.keep (.keep (.keep (.keep (.drop (.drop (.drop (.keep .nil)))))))))) (hn _ h)
        · refine aw_append (Γ' := fun row3 => [.dat sights, .dat past, .dat event, .own s, .dat w_, .own row3, .dat sight, .dat left, .dat many, .no]) rfl (fun _ => rfl) ew_int (RaiseW.tt0 hx) h (fun row3 h => ?_)
          exact at_wk (.keep (.keep (.keep (.keep (.keep (.keep (.drop (.drop (.drop (.keep .nil)))))))))) (hn _ h)
      · refine aw_append (Γ' := fun answers2 => [.dat sights, .dat past, .dat event, .own answers2, .dat w_, .own s_2, .no, .no, .no, .no]) rfl (fun _ => rfl) (ew_tupleL (lw_own rfl)) (RaiseW.tt0 hx) h (fun answers2 h => ?_)
        exact at_wk (.keep (.keep (.keep (.keep (.drop (.drop (.keep (.keep (.keep (.keep .nil)))))))))) (hn _ h)
    · exact aw_retO hr rfl h
abbrev N__law_least : List Str := ["one", "other", "made", "w", "alike", "u"]
def t__law_least (K : PySem.W.Frag) (w : World) (E : XK) : TS :=
  (tSeq (tAsg (tLst tNil) (gName 2))
    (tSeq (tFor (iRng1 (tCons (tCB (rLenA K) (tCons (tVar 0) tNil)) tNil)) (gName 3) (tSeq (tAsg (tLc (iRng1 (tCons (tOp (rAddA K) (tVar 3) (tC (.int 1))) tNil)) (gName 5) (tAnd (tTest (tOp (rEqA K) (tOp (rIx K) (tVar 0) (tVar 5)) (tOp (rIx K) (tVar 0) (tVar 3)))) (tTest (tOp (rEqA K) (tOp (rIx K) (tVar 1) (tVar 5)) (tOp (rIx K) (tVar 1) (tVar 3))))) (tVar 5) [5]) (gName 4))
    (tDrop (tBM K "list" rAppend (tVar 2) (tCons (tOp (rIx K) (tVar 4) (tC (.int 0))) tNil)))))
    (tRet (tVar 2))))
@[irreducible] def W__law_least (one : PyData) (other : PyData) (rt : List PyData → Prop) (er : XP) : Prop :=
  dispL [] fun made => seqW one fun l2 => lenW l2 fun t1 => rngW t1 fun it1 => forW (σ := List PyData) (fun w_ s nx bk => addW w_ (.int 1) fun t2 => rngW t2 fun it2 => lcW it2 (fun u Y N => andW (fun k1 => seqW one fun l3 => ixW l3 u fun t3 => seqW one fun l4 => ixW l4 w_ fun t4 => eqW t3 t4 fun t5 => boolW t5 fun b1 => k1 b1) (fun k2 => seqW other fun l5 => ixW l5 u fun t6 => seqW other fun l6 => ixW l6 w_ fun t7 => eqW t6 t7 fun t8 => boolW t8 fun b2 => k2 b2) fun b3 => iteW b3 (Y u) N) fun l7 => fzW l7 fun alike => seqW alike fun l8 => ixW l8 (.int 0) fun t10 => appW s t10 fun made2 => nx made2) (fun s => rt s) it1 made
theorem P__law_least (vs : List V) (H : Hp) (Q : VK) (E : XK) (h : spFN A (vl2 W__law_least) vs H Q E) : t__law_least K w E { nx := fun _ H' => Q .non H', rt := Q } (L2.start N__law_least vs) H :=
  spFN_body (N := N__law_least) (t := fun E => t__law_least K w E) h fun ds rt er B F0 D hW hr hx => by
    obtain ⟨one, other, rfl, h⟩ := vl2_inv hW
    unfold W__law_least at h
    show At pc0 B F0 [.dat one, .dat other, .no, .no, .no, .no] (t__law_least K w E D)
    refine aw_seq ?_
    refine aw_asgN (Γ' := fun made => [.dat one, .dat other, .own made, .no, .no, .no]) (fun _ => rfl) (nw_lst aw_nil) (RaiseW.tt0 hx) h (fun made h => ?_)
    refine aw_seq ?_
    refine aw_for (σT := List PyData) (vs := [3]) (fun s => [.dat one, .dat other, .own s, .no, .no, .no]) (.keep (.keep (.keep (.keep (.keep (.keep .nil)))))) (fw_rng1 (ew_len (Ew.s (ew_var rfl)))) (fun F0 D => RetN pc0 B F0 D rt) (ron_chain hr) hx h (fun F0 w_ s nx bk D hr hx hn hc hb h => ?_) (fun s h => ?_)
    · refine ⟨[.dat one, .dat other, .own s, .dat w_, .no, .no], tg_name (by decide), ?_⟩
      refine aw_seq ?_
      refine aw_asg (Γ' := fun alike => [.dat one, .dat other, .own s, .dat w_, .dat alike, .no]) (fun _ => rfl) (Nw.fz (nw_lc (Fw.it (fw_rng1 (ew_op ov_add (ew_var rfl) ew_int))) (fun x Y N h => ⟨_, _, _, tg_name (by decide), (tw_and (tw_test (ew_op ov_eq (ew_ix (Ew.s (ew_var rfl)) (ew_var rfl)) (ew_ix (Ew.s (ew_var rfl)) (ew_var rfl)))) (tw_test (ew_op ov_eq (ew_ix (Ew.s (ew_var rfl)) (ew_var rfl)) (ew_ix (Ew.s (ew_var rfl)) (ew_var rfl))))), (ew_var rfl), h⟩))) (RaiseW.tt0 hx) h (fun alike h => ?_)
      refine aw_append (Γ' := fun made2 => [.dat one, .dat other, .own made2, .dat w_, .dat alike, .no]) rfl (fun _ => rfl) (ew_ix (Ew.s (ew_var rfl)) ew_int) (RaiseW.tt0 hx) h (fun made2 h => ?_)
      exact at_wk (.keep (.keep (.keep (.drop (.drop (.keep .nil)))))) (hn _ h)
    · exact aw_retO hr rfl h
abbrev N__law_rounds : List Str := ["sights", "event", "past", "rounds", "going", "turn", "answers", "finer", "was", "w", "sight"]
def t__law_rounds (K : PySem.W.Frag) (w : World) (sp__law_answers : Sp) (sp__law_least : Sp) (E : XK) : TS :=
  (tSeq (tAsg (tLc (iSeq K (tOp (rIx K) (tVar 0) (tC (.int 0)))) (gName 9) tYes (tC (.int 0)) [9]) (gName 2))
    (tSeq (tAsg (tLst tNil) (gName 3))
    (tSeq (tAsg (tC (.bl true)) (gName 4))
    (tSeq (tFor (iRng1 (tCons (tC (.int 12)) tNil)) (gName 5) (tIfS (tB (tVar 4)) (tSeq (tAsg (tCall sp__law_answers [] E (tCons (tVar 0) (tCons (tVar 2) (tCons (tVar 1) tNil)))) (gName 6))
    (tSeq (tDrop (tBM K "list" rAppend (tVar 3) (tCons (tVar 6) tNil)))
    (tSeq (tAsg (tCall sp__law_least [] E (tCons (tVar 2) (tCons (tVar 6) tNil))) (gName 7))
    (tSeq (tAsg (tLc (iSeq K (tVar 0)) (gName 10) tYes (tCall sp__law_least [] E0 (tCons (tVar 10) (tCons (tVar 2) tNil))) [10]) (gName 8))
    (tSeq (tAsg (tOp (rNeA K) (tVar 8) (tLc (iSeq K (tVar 0)) (gName 10) tYes (tCall sp__law_least [] E0 (tCons (tVar 10) (tCons (tVar 7) tNil))) [10])) (gName 4))
    (tAsg (tVar 7) (gName 2))))))) tNext))
    (tRet (tTup (tCons (tVar 3) (tCons (tVar 2) tNil))))))))
@[irreducible] def W__law_rounds (sights : PyData) (event : PyData) (rt : PyData → Prop) (er : XP) : Prop :=
  seqW sights fun l1 => ixW l1 (.int 0) fun t1 => seqW t1 fun l2 => lcMW l2 (fun w_ Y => Y (.int 0)) fun l3 => fzW l3 fun past => dispL [] fun rounds => letW (.bool true) fun going => rngW (.int 12) fun it2 => forW (σ := List PyData × PyData × PyData) (fun turn s nx bk => boolW s.2.1 fun b1 => iteW b1 (W__law_answers sights s.2.2 event (fun l5 => fzW l5 fun answers => appW s.1 answers fun rounds2 => W__law_least s.2.2 answers (fun l6 => fzW l6 fun finer => seqW sights fun l7 => lcMW l7 (fun sight Y2 => W__law_least sight s.2.2 (fun l8 => fzW l8 fun t6 => Y2 t6) noX) fun l9 => fzW l9 fun was => seqW sights fun l10 => lcMW l10 (fun sight2 Y3 => W__law_least sight2 finer (fun l11 => fzW l11 fun t8 => Y3 t8) noX) fun l12 => fzW l12 fun t9 => neW was t9 fun going2 => letW finer fun past2 => nx (rounds2, going2, past2)) er) er) (nx (s.1, s.2.1, s.2.2))) (fun s => dispT [(.list s.1), s.2.2] fun t12 => rt t12) it2 (rounds, going, past)
theorem P__law_rounds (vs : List V) (H : Hp) (Q : VK) (E : XK) (h : spF A (vl2 W__law_rounds) vs H Q E) : t__law_rounds K w (spFN A (vl3 W__law_answers)) (spFN A (vl2 W__law_least)) E { nx := fun _ H' => Q .non H', rt := Q } (L2.start N__law_rounds vs) H :=
  spF_body (N := N__law_rounds) (t := fun E => t__law_rounds K w (spFN A (vl3 W__law_answers)) (spFN A (vl2 W__law_least)) E) h fun ds rt er B F0 D hW hr hx hn => by
    obtain ⟨sights, event, rfl, h⟩ := vl2_inv hW
    unfold W__law_rounds at h
    show At pc0 B F0 [.dat sights, .dat event, .no, .no, .no, .no, .no, .no, .no, .no, .no] (t__law_rounds K w (spFN A (vl3 W__law_answers)) (spFN A (vl2 W__law_least)) E D)
    refine aw_seq ?_
    refine aw_asg (Γ' := fun past => [.dat sights, .dat event, .dat past, .no, .no, .no, .no, .no, .no, .no, .no]) (fun _ => rfl) (Nw.fz (nw_lcM (iw_seq (Ew.s (ew_ix (Ew.s (ew_var rfl)) ew_int))) (fun x Y h => ⟨_, _, tg_name (by decide), ew_int, h⟩))) (RaiseW.tt0 hx) h (fun past h => ?_)
    refine aw_seq ?_
    refine aw_asgN (Γ' := fun rounds => [.dat sights, .dat event, .dat past, .own rounds, .no, .no, .no, .no, .no, .no, .no]) (fun _ => rfl) (nw_lst aw_nil) (RaiseW.tt0 hx) h (fun rounds h => ?_)
    refine aw_seq ?_
    refine aw_asg (Γ' := fun going => [.dat sights, .dat event, .dat past, .own rounds, .dat going, .no, .no, .no, .no, .no, .no]) (fun _ => rfl) (ew_let ew_bl) (RaiseW.tt0 hx) h (fun going h => ?_)
    refine aw_seq ?_
    refine aw_for (σT := List PyData × PyData × PyData) (vs := [5]) (fun s => [.dat sights, .dat event, .dat s.2.2, .own s.1, .dat s.2.1, .no, .no, .no, .no, .no, .no]) (.keep (.keep (.keep (.keep (.keep (.keep (.keep (.keep (.keep (.keep (.keep .nil))))))))))) (fw_rng1 ew_int) (fun F0 D => RetOk pc0 B F0 D rt) (rok_chain hr) hx h (fun F0 turn s nx bk D hr hx hn hc hb h => ?_) (fun s h => ?_)
    · refine ⟨[.dat sights, .dat event, .dat s.2.2, .own s.1, .dat s.2.1, .dat turn, .no, .no, .no, .no, .no], tg_name (by decide), ?_⟩
      refine aw_if (tw_B (ew_var rfl)) (RaiseW.tt0 hx) h (fun h => ?_) (fun h => ?_)
      · refine aw_seq ?_
        refine aw_asg (Γ' := fun answers => [.dat sights, .dat event, .dat s.2.2, .own s.1, .dat s.2.1, .dat turn, .dat answers, .no, .no, .no, .no]) (fun _ => rfl) (Nw.fz (nw_call (aw_cons (ew_var rfl) (aw_cons (ew_var rfl) (aw_cons (ew_var rfl) aw_nil))))) (RaiseW.tt0 hx) h (fun answers h => ?_)
        refine aw_seq ?_
        refine aw_append (Γ' := fun rounds2 => [.dat sights, .dat event, .dat s.2.2, .own rounds2, .dat s.2.1, .dat turn, .dat answers, .no, .no, .no, .no]) rfl (fun _ => rfl) (ew_var rfl) (RaiseW.tt0 hx) h (fun rounds2 h => ?_)
        refine aw_seq ?_
        refine aw_asg (Γ' := fun finer => [.dat sights, .dat event, .dat s.2.2, .own rounds2, .dat s.2.1, .dat turn, .dat answers, .dat finer, .no, .no, .no]) (fun _ => rfl) (Nw.fz (nw_call (aw_cons (ew_var rfl) (aw_cons (ew_var rfl) aw_nil)))) (RaiseW.tt0 hx) h (fun finer h => ?_)
        refine aw_seq ?_
        refine aw_asg (Γ' := fun was => [.dat sights, .dat event, .dat s.2.2, .own rounds2, .dat s.2.1, .dat turn, .dat answers, .dat finer, .dat was, .no, .no]) (fun _ => rfl) (Nw.fz (nw_lcM (iw_seq (Ew.s (ew_var rfl))) (fun x Y h => ⟨_, _, tg_name (by decide), (Nw.fz (nw_call (aw_cons (ew_var rfl) (aw_cons (ew_var rfl) aw_nil)))), h⟩))) (RaiseW.tt0 hx) h (fun was h => ?_)
        refine aw_seq ?_
        refine aw_asg (Γ' := fun going2 => [.dat sights, .dat event, .dat s.2.2, .own rounds2, .dat going2, .dat turn, .dat answers, .dat finer, .dat was, .no, .no]) (fun _ => rfl) (ew_op ov_ne (ew_var rfl) (Nw.fz (nw_lcM (iw_seq (Ew.s (ew_var rfl))) (fun x Y h => ⟨_, _, tg_name (by decide), (Nw.fz (nw_call (aw_cons (ew_var rfl) (aw_cons (ew_var rfl) aw_nil)))), h⟩)))) (RaiseW.tt0 hx) h (fun going2 h => ?_)
        refine aw_asg (Γ' := fun past2 => [.dat sights, .dat event, .dat past2, .own rounds2, .dat going2, .dat turn, .dat answers, .dat finer, .dat was, .no, .no]) (fun _ => rfl) (ew_let (ew_var rfl)) (RaiseW.tt0 hx) h (fun past2 h => ?_)
        exact at_wk (.keep (.keep (.keep (.keep (.keep (.drop (.drop (.drop (.drop (.keep (.keep .nil))))))))))) (hn _ h)
      · refine aw_next ?_
        exact at_wk (.keep (.keep (.keep (.keep (.keep (.drop (.keep (.keep (.keep (.keep (.keep .nil))))))))))) (hn _ h)
    · refine at_frz 3 rfl ?_
      show At pc0 B F0 [.dat sights, .dat event, .dat s.2.2, .dat (.list s.1), .dat s.2.1, .no, .no, .no, .no, .no, .no] _
      exact aw_ret hr (ew_tup (aw_cons (ew_var rfl) (aw_cons (ew_var rfl) aw_nil))) (RaiseW.tt0 hx) h
abbrev N__law_are_rounds : List Str := ["value", "rounds", "world", "unlike", "k"]
def t__law_are_rounds (K : PySem.W.Frag) (w : World) (sp__law_is_lot : Sp) (E : XK) : TS :=
  (tSeq (tIfS (tOr (tNot (tB (tCB (rIsi K) (tCons (tVar 0) (tCons (tC (.ty "tuple")) tNil))))) (tTest (tOp (rNeA K) (tCB (rLenA K) (tCons (tVar 0) tNil)) (tCB (rLenA K) (tCons (tVar 1) tNil))))) (tRet (tC (.bl false))) tNext)
    (tSeq (tAsg (tLc (iRng1 (tCons (tCB (rLenA K) (tCons (tVar 1) tNil)) tNil)) (gName 4) (tNot (tB (tCall sp__law_is_lot [] E0 (tCons (tOp (rIx K) (tVar 0) (tVar 4)) (tCons (tOp (rIx K) (tOp (rIx K) (tVar 1) (tVar 4)) (tVar 2)) tNil))))) (tVar 4) [4]) (gName 3))
    (tRet (tOp (rEqA K) (tVar 3) (tLst tNil)))))
@[irreducible] def W__law_are_rounds (value : PyData) (rounds : PyData) (world : PyData) (rt : PyData → Prop) (er : XP) : Prop :=
  orW (fun k1 => isTupW value fun t1 => boolW t1 fun b1 => k1 (!b1)) (fun k2 => seqW value fun l1 => lenW l1 fun t2 => seqW rounds fun l2 => lenW l2 fun t3 => neW t2 t3 fun t4 => boolW t4 fun b2 => k2 b2) fun b3 => iteW b3 (rt (.bool false)) (seqW rounds fun l3 => lenW l3 fun t5 => rngW t5 fun it1 => lcW it1 (fun k3 Y N => seqW value fun l4 => ixW l4 k3 fun t7 => seqW rounds fun l5 => ixW l5 k3 fun t8 => seqW t8 fun l6 => ixW l6 world fun t9 => W__law_is_lot t7 t9 (fun t6 => boolW t6 fun b4 => iteW (!b4) (Y k3) N) noX) fun l7 => fzW l7 fun unlike => dispL [] fun l8 => fzW l8 fun t11 => eqW unlike t11 fun t12 => rt t12)
theorem P__law_are_rounds (vs : List V) (H : Hp) (Q : VK) (E : XK) (h : spF A (vl3 W__law_are_rounds) vs H Q E) : t__law_are_rounds K w (spF A (vl2 W__law_is_lot)) E { nx := fun _ H' => Q .non H', rt := Q } (L2.start N__law_are_rounds vs) H :=
  spF_body (N := N__law_are_rounds) (t := fun E => t__law_are_rounds K w (spF A (vl2 W__law_is_lot)) E) h fun ds rt er B F0 D hW hr hx hn => by
    obtain ⟨value, rounds, world, rfl, h⟩ := vl3_inv hW
    unfold W__law_are_rounds at h
    show At pc0 B F0 [.dat value, .dat rounds, .dat world, .no, .no] (t__law_are_rounds K w (spF A (vl2 W__law_is_lot)) E D)
    refine aw_seq ?_
    refine aw_if (tw_or (tw_not (tw_B (ew_isTup (ew_var rfl)))) (tw_test (ew_op ov_ne (ew_len (Ew.s (ew_var rfl))) (ew_len (Ew.s (ew_var rfl)))))) (RaiseW.tt0 hx) h (fun h => ?_) (fun h => ?_)
    · exact aw_ret hr ew_bl (RaiseW.tt0 hx) h
    · refine aw_next ?_
      refine aw_seq ?_
      refine aw_asg (Γ' := fun unlike => [.dat value, .dat rounds, .dat world, .dat unlike, .no]) (fun _ => rfl) (Nw.fz (nw_lc (Fw.it (fw_rng1 (ew_len (Ew.s (ew_var rfl))))) (fun x Y N h => ⟨_, _, _, tg_name (by decide), (tw_not (tw_B (ew_call (aw_cons (ew_ix (Ew.s (ew_var rfl)) (ew_var rfl)) (aw_cons (ew_ix (Ew.s (ew_ix (Ew.s (ew_var rfl)) (ew_var rfl))) (ew_var rfl)) aw_nil))))), (ew_var rfl), h⟩))) (RaiseW.tt0 hx) h (fun unlike h => ?_)
      exact aw_ret hr (ew_op ov_eq (ew_var rfl) (Nw.fz (nw_lst aw_nil))) (RaiseW.tt0 hx) h
abbrev N__law_are_sights : List Str := ["value", "sights", "unlike", "k"]
def t__law_are_sights (K : PySem.W.Frag) (w : World) (sp__law_is_lot : Sp) (E : XK) : TS :=
  (tSeq (tIfS (tOr (tNot (tB (tCB (rIsi K) (tCons (tVar 0) (tCons (tC (.ty "tuple")) tNil))))) (tTest (tOp (rNeA K) (tCB (rLenA K) (tCons (tVar 0) tNil)) (tCB (rLenA K) (tCons (tVar 1) tNil))))) (tRet (tC (.bl false))) tNext)
    (tSeq (tAsg (tLc (iRng1 (tCons (tCB (rLenA K) (tCons (tVar 1) tNil)) tNil)) (gName 3) (tNot (tB (tCall sp__law_is_lot [] E0 (tCons (tOp (rIx K) (tVar 0) (tVar 3)) (tCons (tOp (rIx K) (tVar 1) (tVar 3)) tNil))))) (tVar 3) [3]) (gName 2))
    (tRet (tOp (rEqA K) (tVar 2) (tLst tNil)))))
@[irreducible] def W__law_are_sights (value : PyData) (sights : PyData) (rt : PyData → Prop) (er : XP) : Prop :=
  orW (fun k1 => isTupW value fun t1 => boolW t1 fun b1 => k1 (!b1)) (fun k2 => seqW value fun l1 => lenW l1 fun t2 => seqW sights fun l2 => lenW l2 fun t3 => neW t2 t3 fun t4 => boolW t4 fun b2 => k2 b2) fun b3 => iteW b3 (rt (.bool false)) (seqW sights fun l3 => lenW l3 fun t5 => rngW t5 fun it1 => lcW it1 (fun k3 Y N => seqW value fun l4 => ixW l4 k3 fun t7 => seqW sights fun l5 => ixW l5 k3 fun t8 => W__law_is_lot t7 t8 (fun t6 => boolW t6 fun b4 => iteW (!b4) (Y k3) N) noX) fun l6 => fzW l6 fun unlike => dispL [] fun l7 => fzW l7 fun t10 => eqW unlike t10 fun t11 => rt t11)
theorem P__law_are_sights (vs : List V) (H : Hp) (Q : VK) (E : XK) (h : spF A (vl2 W__law_are_sights) vs H Q E) : t__law_are_sights K w (spF A (vl2 W__law_is_lot)) E { nx := fun _ H' => Q .non H', rt := Q } (L2.start N__law_are_sights vs) H :=
  spF_body (N := N__law_are_sights) (t := fun E => t__law_are_sights K w (spF A (vl2 W__law_is_lot)) E) h fun ds rt er B F0 D hW hr hx hn => by
    obtain ⟨value, sights, rfl, h⟩ := vl2_inv hW
    unfold W__law_are_sights at h
    show At pc0 B F0 [.dat value, .dat sights, .no, .no] (t__law_are_sights K w (spF A (vl2 W__law_is_lot)) E D)
    refine aw_seq ?_
    refine aw_if (tw_or (tw_not (tw_B (ew_isTup (ew_var rfl)))) (tw_test (ew_op ov_ne (ew_len (Ew.s (ew_var rfl))) (ew_len (Ew.s (ew_var rfl)))))) (RaiseW.tt0 hx) h (fun h => ?_) (fun h => ?_)
    · exact aw_ret hr ew_bl (RaiseW.tt0 hx) h
    · refine aw_next ?_
      refine aw_seq ?_
      refine aw_asg (Γ' := fun unlike => [.dat value, .dat sights, .dat unlike, .no]) (fun _ => rfl) (Nw.fz (nw_lc (Fw.it (fw_rng1 (ew_len (Ew.s (ew_var rfl))))) (fun x Y N h => ⟨_, _, _, tg_name (by decide), (tw_not (tw_B (ew_call (aw_cons (ew_ix (Ew.s (ew_var rfl)) (ew_var rfl)) (aw_cons (ew_ix (Ew.s (ew_var rfl)) (ew_var rfl)) aw_nil))))), (ew_var rfl), h⟩))) (RaiseW.tt0 hx) h (fun unlike h => ?_)
      exact aw_ret hr (ew_op ov_eq (ew_var rfl) (Nw.fz (nw_lst aw_nil))) (RaiseW.tt0 hx) h
abbrev N__law_ladder : List Str := ["state", "worlds", "people", "order", "joined", "turn", "sights", "k", "sight", "blind", "at", "step", "event", "w"]
def t__law_ladder (K : PySem.W.Frag) (w : World) (sp__law_draw : Sp) (sp__law_named : Sp) (sp__law_order : Sp) (E : XK) : TS :=
  (tSeq (tAsg (tCall sp__law_order [] E (tCons (tVar 0) (tCons (tVar 1) tNil))) (gName 3))
    (tSeq (tAsg (tCall sp__law_draw [] E (tCons (tVar 0) (tCons (tC (.int 2)) tNil))) (gName 4))
    (tSeq (tAsg (tCall sp__law_draw [] E (tCons (tVar 0) (tCons (tC (.int 2)) tNil))) (gName 5))
    (tSeq (tAsg (tLst tNil) (gName 6))
    (tSeq (tFor (iRng1 (tCons (tVar 2) tNil)) (gName 7) (tSeq (tAsg (tLc (iRng1 (tCons (tVar 1) tNil)) (gName 13) tYes (tC (.int 0)) [13]) (gName 8))
    (tSeq (tAsg (tC (.int 0)) (gName 9))
    (tSeq (tIfS (tTest (tOp rGtI (tVar 7) (tC (.int 1)))) (tAsg (tCall sp__law_draw [] E (tCons (tVar 0) (tCons (tC (.int 2)) tNil))) (gName 9)) tNext)
    (tSeq (tFor (iRng1 (tCons (tVar 1) tNil)) (gName 10) (tSeq (tAsg (tVar 10) (gName 11))
    (tSeq (tIfS (tAnd (tTest (tOp (rEqA K) (tVar 4) (tC (.int 1)))) (tAnd (tTest (tOp (rEqA K) (tVar 10) (tOp rSubI (tVar 1) (tC (.int 1))))) (tTest (tOp rGtI (tVar 10) (tC (.int 0)))))) (tAsg (tOp rSubI (tVar 10) (tC (.int 1))) (gName 11)) tNext)
    (tIfS (tTest (tOp (rEqA K) (tVar 9) (tC (.int 0)))) (tAsg (tOp rDivI (tCB rIntA (tCons (tOp (rAddA K) (tOp (rAddA K) (tVar 11) (tVar 7)) (tVar 5)) tNil)) (tC (.int 2))) (gSub (tVar 8) (tOp (rIx K) (tVar 3) (tVar 10)) rSetL)) tNext))))
    (tDrop (tBM K "list" rAppend (tVar 6) (tCons (tCall sp__law_named [] E (tCons (tVar 0) (tCons (tVar 8) tNil))) tNil))))))))
    (tSeq (tAsg (tLc (iRng1 (tCons (tVar 1) tNil)) (gName 10) (tTest (tOp (rEqA K) (tOp rModI (tCB rIntA (tCons (tVar 10) tNil)) (tC (.int 2))) (tC (.int 1)))) (tOp (rIx K) (tVar 3) (tVar 10)) [10]) (gName 12))
    (tRet (tTup (tCons (tVar 6) (tCons (tThen (tCB (rSortedA K) (tCons (tVar 12) tNil)) (kTup K)) tNil))))))))))
@[irreducible] def W__law_ladder (worlds : PyData) (people : PyData) (rt : PyData → Prop) (er : XP) : Prop :=
  W__law_order worlds (fun l1 => fzW l1 fun order => W__law_draw (.int 2) (fun joined => W__law_draw (.int 2) (fun turn => dispL [] fun sights => rngW people fun it1 => forW (σ := List PyData) (fun k1 s nx bk => rngW worlds fun it2 => lcMW it2 (fun w_ Y => Y (.int 0)) fun sight => letW (.int 0) fun blind => joinW (fun k2 => gtW k1 (.int 1) fun t5 => boolW t5 fun b1 => iteW b1 (W__law_draw (.int 2) (fun blind3 => k2 blind3) er) (k2 blind)) fun blind2 => rngW worlds fun it3 => forW (σ := List PyData) (fun at_ s_2 nx bk => letW at_ fun step => joinW (fun k7 => andW (fun k5 => eqW joined (.int 1) fun t8 => boolW t8 fun b2 => k5 b2) (fun k6 => andW (fun k3 => subW worlds (.int 1) fun t9 => eqW at_ t9 fun t10 => boolW t10 fun b3 => k3 b3) (fun k4 => gtW at_ (.int 0) fun t11 => boolW t11 fun b4 => k4 b4) fun b5 => k6 b5) fun b6 => iteW b6 (subW at_ (.int 1) fun step3 => k7 step3) (k7 step)) fun step2 => eqW blind2 (.int 0) fun t13 => boolW t13 fun b7 => iteW b7 (addW step2 k1 fun t14 => addW t14 turn fun t15 => cintW t15 fun t16 => divW t16 (.int 2) fun t17 => seqW order fun l4 => ixW l4 at_ fun t18 => setW s_2 t18 t17 fun sight2 => nx sight2) (nx s_2)) (fun s_2 => W__law_named (.list s_2) (fun t19 => noLsW t19 fun l5 => fzW l5 fun t20 => appW s t20 fun sights2 => nx sights2) er) it3 sight) (fun s => rngW worlds fun it4 => lcW it4 (fun at_2 Y2 N2 => cintW at_2 fun t21 => modW t21 (.int 2) fun t22 => eqW t22 (.int 1) fun t23 => boolW t23 fun b8 => iteW b8 (seqW order fun l6 => ixW l6 at_2 fun t24 => Y2 t24) N2) fun l7 => fzW l7 fun event => lstW event fun l8 => sortW l8 fun l9 => tupW l9 fun t26 => dispT [(.list s), t26] fun t27 => rt t27) it1 sights) er) er) er
theorem P__law_ladder (vs : List V) (H : Hp) (Q : VK) (E : XK) (h : spP A St (vl2 W__law_ladder) vs H Q E) : t__law_ladder K w (spP A St (vl1 W__law_draw)) (spPN A St (vl1 W__law_named)) (spPN A St (vl1 W__law_order)) E { nx := fun _ H' => Q .non H', rt := Q } (L2.start N__law_ladder vs) H :=
  spP_body (N := N__law_ladder) (t := fun E => t__law_ladder K w (spP A St (vl1 W__law_draw)) (spPN A St (vl1 W__law_named)) (spPN A St (vl1 W__law_order)) E) h fun C hF ds rt er B F0 D hW hr hx hn => by
    obtain ⟨worlds, people, rfl, h⟩ := vl2_inv hW
    unfold W__law_ladder at h
    show At C B F0 [.pool, .dat worlds, .dat people, .no, .no, .no, .no, .no, .no, .no, .no, .no, .no, .no] (t__law_ladder K w (spP A St (vl1 W__law_draw)) (spPN A St (vl1 W__law_named)) (spPN A St (vl1 W__law_order)) E D)
    refine aw_seq ?_
    refine aw_asg (Γ' := fun order => [.pool, .dat worlds, .dat people, .dat order, .no, .no, .no, .no, .no, .no, .no, .no, .no, .no]) (fun _ => rfl) (Nw.fz (nw_callP hF rfl (aw_cons (ew_var rfl) aw_nil))) (RaiseW.tt0 hx) h (fun order h => ?_)
    refine aw_seq ?_
    refine aw_asg (Γ' := fun joined => [.pool, .dat worlds, .dat people, .dat order, .dat joined, .no, .no, .no, .no, .no, .no, .no, .no, .no]) (fun _ => rfl) (ew_callP hF rfl (aw_cons ew_int aw_nil)) (RaiseW.tt0 hx) h (fun joined h => ?_)
    refine aw_seq ?_
    refine aw_asg (Γ' := fun turn => [.pool, .dat worlds, .dat people, .dat order, .dat joined, .dat turn, .no, .no, .no, .no, .no, .no, .no, .no]) (fun _ => rfl) (ew_callP hF rfl (aw_cons ew_int aw_nil)) (RaiseW.tt0 hx) h (fun turn h => ?_)
    refine aw_seq ?_
    refine aw_asgN (Γ' := fun sights => [.pool, .dat worlds, .dat people, .dat order, .dat joined, .dat turn, .own sights, .no, .no, .no, .no, .no, .no, .no]) (fun _ => rfl) (nw_lst aw_nil) (RaiseW.tt0 hx) h (fun sights h => ?_)
    refine aw_seq ?_
    refine aw_for (σT := List PyData) (vs := [7]) (fun s => [.pool, .dat worlds, .dat people, .dat order, .dat joined, .dat turn, .own s, .no, .no, .no, .no, .no, .no, .no]) (.keep (.keep (.keep (.keep (.keep (.keep (.keep (.keep (.keep (.keep (.keep (.keep (.keep (.keep .nil)))))))))))))) (fw_rng1 (ew_var rfl)) (fun F0 D => RetOk C B F0 D rt) (rok_chain hr) hx h (fun F0 k1 s nx bk D hr hx hn hc hb h => ?_) (fun s h => ?_)
    · refine ⟨[.pool, .dat worlds, .dat people, .dat order, .dat joined, .dat turn, .own s, .dat k1, .no, .no, .no, .no, .no, .no], tg_name (by decide), ?_⟩
      refine aw_seq ?_
      refine aw_asgN (Γ' := fun sight => [.pool, .dat worlds, .dat people, .dat order, .dat joined, .dat turn, .own s, .dat k1, .own sight, .no, .no, .no, .no, .no]) (fun _ => rfl) (nw_lcM (Fw.it (fw_rng1 (ew_var rfl))) (fun x Y h => ⟨_, _, tg_name (by decide), ew_int, h⟩)) (RaiseW.tt0 hx) h (fun sight h => ?_)
      refine aw_seq ?_
      refine aw_asg (Γ' := fun blind => [.pool, .dat worlds, .dat people, .dat order, .dat joined, .dat turn, .own s, .dat k1, .own sight, .dat blind, .no, .no, .no, .no]) (fun _ => rfl) (ew_let ew_int) (RaiseW.tt0 hx) h (fun blind h => ?_)
      refine aw_join (J := fun (k : PyData → Prop) Z => ∀ blind2, k blind2 → At C B F0 [.pool, .dat worlds, .dat people, .dat order, .dat joined, .dat turn, .own s, .dat k1, .own sight, .dat blind2, .no, .no, .no, .no] Z) h (fun blind2 h => ?_) (fun k' hk h => ?_)
      · refine aw_seq ?_
        refine aw_for (σT := List PyData) (vs := [10]) (fun s_2 => [.pool, .dat worlds, .dat people, .dat order, .dat joined, .dat turn, .own s, .dat k1, .own s_2, .dat blind2, .no, .no, .no, .no]) (.keep (.keep (.keep (.keep (.keep (.keep (.keep (.keep (.keep (.keep (.keep (.keep (.keep (.keep .nil)))))))))))))) (fw_rng1 (ew_var rfl)) (fun F0 D => RetOk C B F0 D rt) (rok_chain hr) hx h (fun F0 at_ s_2 nx bk D hr hx hn hc hb h => ?_) (fun s_2 h => ?_)
        · refine ⟨[.pool, .dat worlds, .dat people, .dat order, .dat joined, .dat turn, .own s, .dat k1, .own s_2, .dat blind2, .dat at_, .no, .no, .no], tg_name (by decide), ?_⟩
          refine aw_seq ?_
          refine aw_asg (Γ' := fun step => [.pool, .dat worlds, .dat people, .dat order, .dat joined, .dat turn, .own s, .dat k1, .own s_2, .dat blind2, .dat at_, .dat step, .no, .no]) (fun _ => rfl) (ew_let (ew_var rfl)) (RaiseW.tt0 hx) h (fun step h => ?_)
          refine aw_join (J := fun (k : PyData → Prop) Z => ∀ step2, k step2 → At C B F0 [.pool, .dat worlds, .dat people, .dat order, .dat joined, .dat turn, .own s, .dat k1, .own s_2, .dat blind2, .dat at_, .dat step2, .no, .no] Z) h (fun step2 h => ?_) (fun k' hk h => ?_)
          · refine aw_if (tw_test (ew_op ov_eq (ew_var rfl) ew_int)) (RaiseW.tt0 hx) h (fun h => ?_) (fun h => ?_)
            · refine aw_set (Γ' := fun sight2 => [.pool, .dat worlds, .dat people, .dat order, .dat joined, .dat turn, .own s, .dat k1, .own sight2, .dat blind2, .dat at_, .dat step2, .no, .no]) rfl (fun _ => rfl) (ew_op ov_div (ew_cint (ew_op ov_add (ew_op ov_add (ew_var rfl) (ew_var rfl)) (ew_var rfl))) ew_int) (ew_ix (Ew.s (ew_var rfl)) (ew_var rfl)) (RaiseW.tt0 hx) h (fun sight2 h => ?_)
              exact at_wk (.keep (.keep (.keep (.keep (.keep (.keep (.keep (.keep (.keep (.keep (.drop (.drop (.keep (.keep .nil)))))))))))))) (hn _ h)
            · refine aw_next ?_
              exact at_wk (.keep (.keep (.keep (.keep (.keep (.keep (.keep (.keep (.keep (.keep (.drop (.drop (.keep (.keep .nil)))))))))))))) (hn _ h)
          · refine aw_if (tw_and (tw_test (ew_op ov_eq (ew_var rfl) ew_int)) (tw_and (tw_test (ew_op ov_eq (ew_var rfl) (ew_op ov_sub (ew_var rfl) ew_int))) (tw_test (ew_op ov_gt (ew_var rfl) ew_int)))) (RaiseW.tt0 hx) h (fun h => ?_) (fun h => ?_)
            · refine aw_asg (Γ' := fun step3 => [.pool, .dat worlds, .dat people, .dat order, .dat joined, .dat turn, .own s, .dat k1, .own s_2, .dat blind2, .dat at_, .dat step3, .no, .no]) (fun _ => rfl) (ew_op ov_sub (ew_var rfl) ew_int) (RaiseW.tt0 hx) h (fun step3 h => ?_)
              exact at_wk (.keep (.keep (.keep (.keep (.keep (.keep (.keep (.keep (.keep (.keep (.keep (.keep (.keep (.keep .nil)))))))))))))) (hk _ h)
            · refine aw_next ?_
              exact at_wk (.keep (.keep (.keep (.keep (.keep (.keep (.keep (.keep (.keep (.keep (.keep (.keep (.keep (.keep .nil)))))))))))))) (hk _ h)
        · refine aw_append (Γ' := fun sights2 => [.pool, .dat worlds, .dat people, .dat order, .dat joined, .dat turn, .own sights2, .dat k1, .own s_2, .dat blind2, .no, .no, .no, .no]) rfl (fun _ => rfl) (Nw.fz (nw_callPO hF rfl (awo_own rfl awo_nil))) (RaiseW.tt0 hx) h (fun sights2 h => ?_)
          exact at_wk (.keep (.keep (.keep (.keep (.keep (.keep (.keep (.drop (.drop (.drop (.keep (.keep (.keep (.keep .nil)))))))))))))) (hn _ h)
      · refine aw_if (tw_test (ew_op ov_gt (ew_var rfl) ew_int)) (RaiseW.tt0 hx) h (fun h => ?_) (fun h => ?_)
        · refine aw_asg (Γ' := fun blind3 => [.pool, .dat worlds, .dat people, .dat order, .dat joined, .dat turn, .own s, .dat k1, .own sight, .dat blind3, .no, .no, .no, .no]) (fun _ => rfl) (ew_callP hF rfl (aw_cons ew_int aw_nil)) (RaiseW.tt0 hx) h (fun blind3 h => ?_)
          exact at_wk (.keep (.keep (.keep (.keep (.keep (.keep (.keep (.keep (.keep (.keep (.keep (.keep (.keep (.keep .nil)))))))))))))) (hk _ h)
        · refine aw_next ?_
          exact at_wk (.keep (.keep (.keep (.keep (.keep (.keep (.keep (.keep (.keep (.keep (.keep (.keep (.keep (.keep .nil)))))))))))))) (hk _ h)
    · refine aw_seq ?_
      refine aw_asg (Γ' := fun event => [.pool, .dat worlds, .dat people, .dat order, .dat joined, .dat turn, .own s, .no, .no, .no, .no, .no, .dat event, .no]) (fun _ => rfl) (Nw.fz (nw_lc (Fw.it (fw_rng1 (ew_var rfl))) (fun x Y N h => ⟨_, _, _, tg_name (by decide), (tw_test (ew_op ov_eq (ew_op ov_mod (ew_cint (ew_var rfl)) ew_int) ew_int)), (ew_ix (Ew.s (ew_var rfl)) (ew_var rfl)), h⟩))) (RaiseW.tt0 hx) h (fun event h => ?_)
      refine at_frz 6 rfl ?_
      show At C B F0 [.pool, .dat worlds, .dat people, .dat order, .dat joined, .dat turn, .dat (.list s), .no, .no, .no, .no, .no, .dat event, .no] _
      exact aw_ret hr (ew_tup (aw_cons (ew_var rfl) (aw_cons (ew_tupleL (Nw.ls (nw_sorted (Ew.ls (ew_var rfl))))) aw_nil))) (RaiseW.tt0 hx) h
abbrev N__law_others : List Str := ["worlds", "event", "w"]
def t__law_others (K : PySem.W.Frag) (w : World) (E : XK) : TS :=
  (tRet (tThen (tLc (iRng1 (tCons (tVar 0) tNil)) (gName 2) (tTest (tOp (rNiA K) (tVar 2) (tVar 1))) (tVar 2) [2]) (kTup K)))
@[irreducible] def W__law_others (worlds : PyData) (event : PyData) (rt : PyData → Prop) (er : XP) : Prop :=
  rngW worlds fun it1 => lcW it1 (fun w_ Y N => seqW event fun l1 => niW w_ l1 fun t1 => boolW t1 fun b1 => iteW b1 (Y w_) N) fun l2 => tupW l2 fun t2 => rt t2
theorem P__law_others (vs : List V) (H : Hp) (Q : VK) (E : XK) (h : spF A (vl2 W__law_others) vs H Q E) : t__law_others K w E { nx := fun _ H' => Q .non H', rt := Q } (L2.start N__law_others vs) H :=
  spF_body (N := N__law_others) (t := fun E => t__law_others K w E) h fun ds rt er B F0 D hW hr hx hn => by
    obtain ⟨worlds, event, rfl, h⟩ := vl2_inv hW
    unfold W__law_others at h
    show At pc0 B F0 [.dat worlds, .dat event, .no] (t__law_others K w E D)
    exact aw_ret hr (ew_tupleL (Nw.ls (nw_lc (Fw.it (fw_rng1 (ew_var rfl))) (fun x Y N h => ⟨_, _, _, tg_name (by decide), (tw_test (ew_ni (ew_var rfl) (Ew.s (ew_var rfl)))), (ew_var rfl), h⟩)))) (RaiseW.tt0 hx) h
abbrev N__law_tells : List Str := ["handed", "sights", "event", "world", "other", "told", "others", "due", "finest", "sight"]
def t__law_tells (K : PySem.W.Frag) (w : World) (sp__law_are_rounds : Sp) (sp__law_are_sights : Sp) (sp__law_least : Sp) (sp__law_others : Sp) (sp__law_plain : Sp) (sp__law_rounds : Sp) (sp_asked : Sp) (sp_parted : Sp) (E : XK) : TS :=
  (tSeq (tAsg (tCall sp__law_rounds [] E (tCons (tVar 1) (tCons (tVar 2) tNil))) (gName 5))
    (tSeq (tAsg (tCall sp__law_others [] E (tCons (tCB (rLenA K) (tCons (tOp (rIx K) (tVar 1) (tC (.int 0))) tNil)) (tCons (tVar 2) tNil))) (gName 6))
    (tSeq (tIfS (tNot (tB (tCall sp__law_are_rounds [] E (tCons (tCall sp_asked [] E (tCons (tVar 0) (tCons (tVar 2) (tCons (tVar 3) tNil)))) (tCons (tOp (rIx K) (tVar 5) (tC (.int 0))) (tCons (tVar 3) tNil)))))) (tRet (tC (.bl false))) tNext)
    (tSeq (tIfS (tNot (tB (tCall sp__law_are_rounds [] E (tCons (tCall sp_asked [] E (tCons (tVar 0) (tCons (tVar 6) (tCons (tVar 4) tNil)))) (tCons (tOp (rIx K) (tVar 5) (tC (.int 0))) (tCons (tVar 4) tNil)))))) (tRet (tC (.bl false))) tNext)
    (tSeq (tIfS (tNot (tB (tCall sp__law_are_rounds [] E (tCons (tCall sp_asked [] E (tCons (tVar 0) (tCons (tVar 2) (tCons (tVar 4) tNil)))) (tCons (tOp (rIx K) (tVar 5) (tC (.int 0))) (tCons (tVar 4) tNil)))))) (tRet (tC (.bl false))) tNext)
    (tSeq (tAsg (tLc (iSeq K (tVar 1)) (gName 9) tYes (tCall sp__law_least [] E0 (tCons (tVar 9) (tCons (tOp (rIx K) (tVar 5) (tC (.int 1))) tNil))) [9]) (gName 7))
    (tSeq (tAsg (tCall sp_parted [] E (tCons (tVar 0) (tCons (tVar 2) tNil))) (gName 8))
    (tSeq (tIfS (tNot (tB (tCall sp__law_are_sights [] E (tCons (tVar 8) (tCons (tVar 7) tNil))))) (tRet (tC (.bl false))) tNext)
    (tSeq (tIfS (tNot (tB (tCall sp__law_are_rounds [] E (tCons (tCall sp_asked [] E (tCons (tVar 8) (tCons (tVar 2) (tCons (tVar 3) tNil)))) (tCons (tLst (tCons (tOp (rIx K) (tOp (rIx K) (tVar 5) (tC (.int 0))) (tUn rNegI (tC (.int 1)))) tNil)) (tCons (tVar 3) tNil)))))) (tRet (tC (.bl false))) tNext)
    (tSeq (tIfS (tNot (tB (tCall sp__law_are_sights [] E (tCons (tCall sp_parted [] E (tCons (tVar 8) (tCons (tVar 6) tNil))) (tCons (tVar 7) tNil))))) (tRet (tC (.bl false))) tNext)
    (tRet (tOp (rEqA K) (tCall sp__law_plain [] E (tCons (tVar 0) tNil)) (tVar 1)))))))))))))
@[irreducible] def W__law_tells (handed : PyData) (sights : PyData) (event : PyData) (world : PyData) (other : PyData) (rt : PyData → Prop) (er : XP) : Prop :=
  W__law_rounds sights event (fun told => seqW sights fun l1 => ixW l1 (.int 0) fun t3 => seqW t3 fun l2 => lenW l2 fun t4 => W__law_others t4 event (fun others => W_asked handed event world (fun t6 => seqW told fun l3 => ixW l3 (.int 0) fun t7 => W__law_are_rounds t6 t7 world (fun t5 => boolW t5 fun b1 => iteW (!b1) (rt (.bool false)) (W_asked handed others other (fun t9 => seqW told fun l4 => ixW l4 (.int 0) fun t10 => W__law_are_rounds t9 t10 other (fun t8 => boolW t8 fun b2 => iteW (!b2) (rt (.bool false)) (W_asked handed event other (fun t12 => seqW told fun l5 => ixW l5 (.int 0) fun t13 => W__law_are_rounds t12 t13 other (fun t11 => boolW t11 fun b3 => iteW (!b3) (rt (.bool false)) (seqW sights fun l6 => lcMW l6 (fun sight Y => seqW told fun l8 => ixW l8 (.int 1) fun t14 => W__law_least sight t14 (fun l7 => fzW l7 fun t15 => Y t15) noX) fun l9 => fzW l9 fun due => W_parted handed event (fun finest => W__law_are_sights finest due (fun t18 => boolW t18 fun b4 => iteW (!b4) (rt (.bool false)) (W_asked finest event world (fun t20 => seqW told fun l10 => ixW l10 (.int 0) fun t21 => seqW t21 fun l11 => negW (.int 1) fun t22 => ixW l11 t22 fun t23 => dispL [t23] fun l12 => fzW l12 fun t24 => W__law_are_rounds t20 t24 world (fun t19 => boolW t19 fun b5 => iteW (!b5) (rt (.bool false)) (W_parted finest others (fun t26 => W__law_are_sights t26 due (fun t25 => boolW t25 fun b6 => iteW (!b6) (rt (.bool false)) (W__law_plain handed (fun l13 => fzW l13 fun t27 => eqW t27 sights fun t28 => rt t28) er)) er) er)) er) er)) er) er)) er) er)) er) er)) er) er) er) er
theorem P__law_tells (vs : List V) (H : Hp) (Q : VK) (E : XK) (h : spF A (vl5 W__law_tells) vs H Q E) : t__law_tells K w (spF A (vl3 W__law_are_rounds)) (spF A (vl2 W__law_are_sights)) (spFN A (vl2 W__law_least)) (spF A (vl2 W__law_others)) (spFN A (vl1 W__law_plain)) (spF A (vl2 W__law_rounds)) (spF A (vl3 W_asked)) (spF A (vl2 W_parted)) E { nx := fun _ H' => Q .non H', rt := Q } (L2.start N__law_tells vs) H :=
  spF_body (N := N__law_tells) (t := fun E => t__law_tells K w (spF A (vl3 W__law_are_rounds)) (spF A (vl2 W__law_are_sights)) (spFN A (vl2 W__law_least)) (spF A (vl2 W__law_others)) (spFN A (vl1 W__law_plain)) (spF A (vl2 W__law_rounds)) (spF A (vl3 W_asked)) (spF A (vl2 W_parted)) E) h fun ds rt er B F0 D hW hr hx hn => by
    obtain ⟨handed, sights, event, world, other, rfl, h⟩ := vl5_inv hW
    unfold W__law_tells at h
    show At pc0 B F0 [.dat handed, .dat sights, .dat event, .dat world, .dat other, .no, .no, .no, .no, .no] (t__law_tells K w (spF A (vl3 W__law_are_rounds)) (spF A (vl2 W__law_are_sights)) (spFN A (vl2 W__law_least)) (spF A (vl2 W__law_others)) (spFN A (vl1 W__law_plain)) (spF A (vl2 W__law_rounds)) (spF A (vl3 W_asked)) (spF A (vl2 W_parted)) E D)
    refine aw_seq ?_
    refine aw_asg (Γ' := fun told => [.dat handed, .dat sights, .dat event, .dat world, .dat other, .dat told, .no, .no, .no, .no]) (fun _ => rfl) (ew_call (aw_cons (ew_var rfl) (aw_cons (ew_var rfl) aw_nil))) (RaiseW.tt0 hx) h (fun told h => ?_)
    refine aw_seq ?_
    refine aw_asg (Γ' := fun others => [.dat handed, .dat sights, .dat event, .dat world, .dat other, .dat told, .dat others, .no, .no, .no]) (fun _ => rfl) (ew_call (aw_cons (ew_len (Ew.s (ew_ix (Ew.s (ew_var rfl)) ew_int))) (aw_cons (ew_var rfl) aw_nil))) (RaiseW.tt0 hx) h (fun others h => ?_)
    refine aw_seq ?_
    refine aw_if (tw_not (tw_B (ew_call (aw_cons (ew_call (aw_cons (ew_var rfl) (aw_cons (ew_var rfl) (aw_cons (ew_var rfl) aw_nil)))) (aw_cons (ew_ix (Ew.s (ew_var rfl)) ew_int) (aw_cons (ew_var rfl) aw_nil)))))) (RaiseW.tt0 hx) h (fun h => ?_) (fun h => ?_)
    · exact aw_ret hr ew_bl (RaiseW.tt0 hx) h
    · refine aw_next ?_
      refine aw_seq ?_
      refine aw_if (tw_not (tw_B (ew_call (aw_cons (ew_call (aw_cons (ew_var rfl) (aw_cons (ew_var rfl) (aw_cons (ew_var rfl) aw_nil)))) (aw_cons (ew_ix (Ew.s (ew_var rfl)) ew_int) (aw_cons (ew_var rfl) aw_nil)))))) (RaiseW.tt0 hx) h (fun h => ?_) (fun h => ?_)
      · exact aw_ret hr ew_bl (RaiseW.tt0 hx) h
      · refine aw_next ?_
        refine aw_seq ?_
        refine aw_if (tw_not (tw_B (ew_call (aw_cons (ew_call (aw_cons (ew_var rfl) (aw_cons (ew_var rfl) (aw_cons (ew_var rfl) aw_nil)))) (aw_cons (ew_ix (Ew.s (ew_var rfl)) ew_int) (aw_cons (ew_var rfl) aw_nil)))))) (RaiseW.tt0 hx) h (fun h => ?_) (fun h => ?_)
        · exact aw_ret hr ew_bl (RaiseW.tt0 hx) h
        · refine aw_next ?_
          refine aw_seq ?_
          refine aw_asg (Γ' := fun due => [.dat handed, .dat sights, .dat event, .dat world, .dat other, .dat told, .dat others, .dat due, .no, .no]) (fun _ => rfl) (Nw.fz (nw_lcM (iw_seq (Ew.s (ew_var rfl))) (fun x Y h => ⟨_, _, tg_name (by decide), (Nw.fz (nw_call (aw_cons (ew_var rfl) (aw_cons (ew_ix (Ew.s (ew_var rfl)) ew_int) aw_nil)))), h⟩))) (RaiseW.tt0 hx) h (fun due h => ?_)
          refine aw_seq ?_
          refine aw_asg (Γ' := fun finest => [.dat handed, .dat sights, .dat event, .dat world, .dat other, .dat told, .dat others, .dat due, .dat finest, .no]) (fun _ => rfl) (ew_call (aw_cons (ew_var rfl) (aw_cons (ew_var rfl) aw_nil))) (RaiseW.tt0 hx) h (fun finest h => ?_)
          refine aw_seq ?_
          refine aw_if (tw_not (tw_B (ew_call (aw_cons (ew_var rfl) (aw_cons (ew_var rfl) aw_nil))))) (RaiseW.tt0 hx) h (fun h => ?_) (fun h => ?_)
          · exact aw_ret hr ew_bl (RaiseW.tt0 hx) h
          · refine aw_next ?_
            refine aw_seq ?_
            refine aw_if (tw_not (tw_B (ew_call (aw_cons (ew_call (aw_cons (ew_var rfl) (aw_cons (ew_var rfl) (aw_cons (ew_var rfl) aw_nil)))) (aw_cons (Nw.fz (nw_lst (aw_cons (ew_ix (Ew.s (ew_ix (Ew.s (ew_var rfl)) ew_int)) (ew_neg ew_int)) aw_nil))) (aw_cons (ew_var rfl) aw_nil)))))) (RaiseW.tt0 hx) h (fun h => ?_) (fun h => ?_)
            · exact aw_ret hr ew_bl (RaiseW.tt0 hx) h
            · refine aw_next ?_
              refine aw_seq ?_
              refine aw_if (tw_not (tw_B (ew_call (aw_cons (ew_call (aw_cons (ew_var rfl) (aw_cons (ew_var rfl) aw_nil))) (aw_cons (ew_var rfl) aw_nil))))) (RaiseW.tt0 hx) h (fun h => ?_) (fun h => ?_)
              · exact aw_ret hr ew_bl (RaiseW.tt0 hx) h
              · refine aw_next ?_
                exact aw_ret hr (ew_op ov_eq (Nw.fz (nw_call (aw_cons (ew_var rfl) aw_nil))) (ew_var rfl)) (RaiseW.tt0 hx) h
abbrev N__law_refusal : List Str := ["which", "sights", "event", "world", "e"]
def t__law_refusal (K : PySem.W.Frag) (w : World) (C_BadNumber : Addr) (C_BadRow : Addr) (C_BadWorlds : Addr) (C_JointError : Addr) (C_NotThere : Addr) (sp_asked : Sp) (sp_parted : Sp) (E : XK) : TS :=
  (tSeq (tTryC K [(.ref C_BadWorlds, some 4, fun a cls d =>
    (tSeq (tIfS (tOr (tB (tCB (rIsX K a cls d) (tCons (tVar 4) (tCons (tC (.ref C_BadNumber)) tNil)))) (tOr (tB (tCB (rIsX K a cls d) (tCons (tVar 4) (tCons (tC (.ref C_NotThere)) tNil)))) (tB (tCB (rIsX K a cls d) (tCons (tVar 4) (tCons (tC (.ref C_BadRow)) tNil)))))) (tRet (tC (.int 2))) tNext)
    (tSeq (tIfS (tAnd (tB (tCB (rIsX K a cls d) (tCons (tVar 4) (tCons (tC (.ref C_JointError)) tNil)))) (tB (tCB (rIsX K a cls d) (tCons (tVar 4) (tCons (tC (.ty "ValueError")) tNil))))) (tRet (tC (.int 1))) tNext)
    (tRet (tC (.int 2)))))),
    (.ref C_JointError, none, fun a cls d =>
    (tRet (tC (.int 3))))] (fun cls d _ H => E cls d H) (fun W =>
    (tIfS (tTest (tOp (rEqA K) (tVar 0) (tC (.int 0)))) (tDrop (tCallS sp_asked (WE W) (tCons (tVar 1) (tCons (tVar 2) (tCons (tVar 3) tNil))))) (tDrop (tCallS sp_parted (WE W) (tCons (tVar 1) (tCons (tVar 2) tNil)))))))
    (tRet (tC (.int 0))))
@[irreducible] def W__law_refusal (which : PyData) (sights : PyData) (event : PyData) (world : PyData) (rt : PyData → Prop) (er : XP) : Prop :=
  joinW (fun xr => eqW which (.int 0) fun t1 => boolW t1 fun b1 => iteW b1 (W_asked sights event world (fun t2 => rt (.int 0)) xr) (W_parted sights event (fun t3 => rt (.int 0)) xr)) fun n f => catchW xn n "BadWorlds" (f = none ∧ (orW (fun k3 => isXW xn n "BadNumber" fun t4 => boolW t4 fun b2 => k3 b2) (fun k4 => orW (fun k1 => isXW xn n "NotThere" fun t5 => boolW t5 fun b3 => k1 b3) (fun k2 => isXW xn n "BadRow" fun t6 => boolW t6 fun b4 => k2 b4) fun b5 => k4 b5) fun b6 => iteW b6 (rt (.int 2)) (andW (fun k5 => isXW xn n "JointError" fun t7 => boolW t7 fun b7 => k5 b7) (fun k6 => isVW xn n fun t8 => boolW t8 fun b8 => k6 b8) fun b9 => iteW b9 (rt (.int 1)) (rt (.int 2))))) (catchW xn n "JointError" (f = none ∧ (rt (.int 3))) (er n f))
theorem P__law_refusal (fx : XF A K xn) (vs : List V) (H : Hp) (Q : VK) (E : XK) (h : spF A (vl4 W__law_refusal) vs H Q E) : t__law_refusal K w (A "BadNumber") (A "BadRow") (A "BadWorlds") (A "JointError") (A "NotThere") (spF A (vl3 W_asked)) (spF A (vl2 W_parted)) E { nx := fun _ H' => Q .non H', rt := Q } (L2.start N__law_refusal vs) H :=
  spF_body (N := N__law_refusal) (t := fun E => t__law_refusal K w (A "BadNumber") (A "BadRow") (A "BadWorlds") (A "JointError") (A "NotThere") (spF A (vl3 W_asked)) (spF A (vl2 W_parted)) E) h fun ds rt er B F0 D hW hr hx hn => by
    obtain ⟨which, sights, event, world, rfl, h⟩ := vl4_inv hW
    unfold W__law_refusal at h
    show At pc0 B F0 [.dat which, .dat sights, .dat event, .dat world, .no] (t__law_refusal K w (A "BadNumber") (A "BadRow") (A "BadWorlds") (A "JointError") (A "NotThere") (spF A (vl3 W_asked)) (spF A (vl2 W_parted)) E D)
    refine aw_seq ?_
    refine aw_try2 (Hf := fun n => orW (fun k3 => isXW xn n "BadNumber" fun t4 => boolW t4 fun b2 => k3 b2) (fun k4 => orW (fun k1 => isXW xn n "NotThere" fun t5 => boolW t5 fun b3 => k1 b3) (fun k2 => isXW xn n "BadRow" fun t6 => boolW t6 fun b4 => k2 b4) fun b5 => k4 b5) fun b6 => iteW b6 (rt (.int 2)) (andW (fun k5 => isXW xn n "JointError" fun t7 => boolW t7 fun b7 => k5 b7) (fun k6 => isVW xn n fun t8 => boolW t8 fun b8 => k6 b8) fun b9 => iteW b9 (rt (.int 1)) (rt (.int 2)))) (Hf2 := fun n => rt (.int 3)) fx hx h (fun xr W ht h => ?_) (fun n a D' hD h => ?_) (fun n a h => ?_)
    · refine aw_if (tw_test (ew_op ov_eq (ew_var rfl) ew_int)) ht h (fun h => ?_) (fun h => ?_)
      · refine aw_drop (ew_callS (aw_cons (ew_var rfl) (aw_cons (ew_var rfl) (aw_cons (ew_var rfl) aw_nil)))) ht h (fun _ h => ?_)
        exact aw_ret hr ew_int (RaiseW.tt0 hx) h
      · refine aw_drop (ew_callS (aw_cons (ew_var rfl) (aw_cons (ew_var rfl) aw_nil))) ht h (fun _ h => ?_)
        exact aw_ret hr ew_int (RaiseW.tt0 hx) h
    · have hr : RetOk pc0 B F0 D' rt := hr.of hD
      refine aw_seq ?_
      refine aw_if (tw_or (tw_B (ew_isX fx rfl)) (tw_or (tw_B (ew_isX fx rfl)) (tw_B (ew_isX fx rfl)))) (RaiseW.tt0 hx) h (fun h => ?_) (fun h => ?_)
      · exact aw_ret hr ew_int (RaiseW.tt0 hx) h
      · refine aw_next ?_
        refine aw_seq ?_
        refine aw_if (tw_and (tw_B (ew_isX fx rfl)) (tw_B (ew_isV fx rfl))) (RaiseW.tt0 hx) h (fun h => ?_) (fun h => ?_)
        · exact aw_ret hr ew_int (RaiseW.tt0 hx) h
        · refine aw_next ?_
          exact aw_ret hr ew_int (RaiseW.tt0 hx) h
    · exact aw_ret hr ew_int (RaiseW.tt0 hx) h
abbrev N__law_refuses : List Str := ["state", "sights", "event", "world", "which", "k", "wrong"]
def t__law_refuses (K : PySem.W.Frag) (w : World) (sp__law_bad_event : Sp) (sp__law_bad_sights : Sp) (sp__law_draw : Sp) (sp__law_handed : Sp) (sp__law_refusal : Sp) (E : XK) : TS :=
  (tSeq (tAsg (tCall sp__law_draw [] E (tCons (tVar 0) (tCons (tC (.int 2)) tNil))) (gName 4))
    (tSeq (tIfS (tTest (tOp (rNeA K) (tCall sp__law_refusal [] E (tCons (tVar 4) (tCons (tCall sp__law_bad_sights [] E (tCons (tVar 0) (tCons (tVar 1) tNil))) (tCons (tVar 2) (tCons (tVar 3) tNil))))) (tC (.int 1)))) (tRet (tC (.bl false))) tNext)
    (tSeq (tIfS (tTest (tOp (rNeA K) (tCall sp__law_refusal [] E (tCons (tOp rSubI (tC (.int 1)) (tVar 4)) (tCons (tCall sp__law_bad_sights [] E (tCons (tVar 0) (tCons (tVar 1) tNil))) (tCons (tVar 2) (tCons (tVar 3) tNil))))) (tC (.int 1)))) (tRet (tC (.bl false))) tNext)
    (tSeq (tFor (iRng1 (tCons (tC (.int 2)) tNil)) (gName 5) (tSeq (tAsg (tCall sp__law_bad_event [] E (tCons (tVar 0) (tCons (tCB (rLenA K) (tCons (tOp (rIx K) (tVar 1) (tC (.int 0))) tNil)) tNil))) (gName 6))
    (tIfS (tTest (tOp (rNeA K) (tCall sp__law_refusal [] E (tCons (tVar 5) (tCons (tCall sp__law_handed [] E (tCons (tVar 0) (tCons (tVar 1) tNil))) (tCons (tVar 6) (tCons (tVar 3) tNil))))) (tC (.int 1)))) (tRet (tC (.bl false))) tNext)))
    (tRet (tC (.bl true)))))))
@[irreducible] def W__law_refuses (sights : PyData) (event : PyData) (world : PyData) (rt : PyData → Prop) (er : XP) : Prop :=
  W__law_draw (.int 2) (fun which => W__law_bad_sights sights (fun t3 => W__law_refusal which t3 event world (fun t2 => neW t2 (.int 1) fun t4 => boolW t4 fun b1 => iteW b1 (rt (.bool false)) (subW (.int 1) which fun t6 => W__law_bad_sights sights (fun t7 => W__law_refusal t6 t7 event world (fun t5 => neW t5 (.int 1) fun t8 => boolW t8 fun b2 => iteW b2 (rt (.bool false)) (rngW (.int 2) fun it1 => forW (σ := Unit) (fun k1 s nx bk => seqW sights fun l1 => ixW l1 (.int 0) fun t10 => seqW t10 fun l2 => lenW l2 fun t11 => W__law_bad_event t11 (fun wrong => W__law_handed sights (fun t13 => W__law_refusal k1 t13 wrong world (fun t12 => neW t12 (.int 1) fun t14 => boolW t14 fun b3 => iteW b3 (rt (.bool false)) (nx ())) er) er) er) (fun s => rt (.bool true)) it1 ())) er) er)) er) er) er
theorem P__law_refuses (vs : List V) (H : Hp) (Q : VK) (E : XK) (h : spP A St (vl3 W__law_refuses) vs H Q E) : t__law_refuses K w (spP A St (vl1 W__law_bad_event)) (spP A St (vl1 W__law_bad_sights)) (spP A St (vl1 W__law_draw)) (spP A St (vl1 W__law_handed)) (spF A (vl4 W__law_refusal)) E { nx := fun _ H' => Q .non H', rt := Q } (L2.start N__law_refuses vs) H :=
  spP_body (N := N__law_refuses) (t := fun E => t__law_refuses K w (spP A St (vl1 W__law_bad_event)) (spP A St (vl1 W__law_bad_sights)) (spP A St (vl1 W__law_draw)) (spP A St (vl1 W__law_handed)) (spF A (vl4 W__law_refusal)) E) h fun C hF ds rt er B F0 D hW hr hx hn => by
    obtain ⟨sights, event, world, rfl, h⟩ := vl3_inv hW
    unfold W__law_refuses at h
    show At C B F0 [.pool, .dat sights, .dat event, .dat world, .no, .no, .no] (t__law_refuses K w (spP A St (vl1 W__law_bad_event)) (spP A St (vl1 W__law_bad_sights)) (spP A St (vl1 W__law_draw)) (spP A St (vl1 W__law_handed)) (spF A (vl4 W__law_refusal)) E D)
    refine aw_seq ?_
    refine aw_asg (Γ' := fun which => [.pool, .dat sights, .dat event, .dat world, .dat which, .no, .no]) (fun _ => rfl) (ew_callP hF rfl (aw_cons ew_int aw_nil)) (RaiseW.tt0 hx) h (fun which h => ?_)
    refine aw_seq ?_
    refine aw_if (tw_test (ew_op ov_ne (ew_call (aw_cons (ew_var rfl) (aw_cons (ew_callP hF rfl (aw_cons (ew_var rfl) aw_nil)) (aw_cons (ew_var rfl) (aw_cons (ew_var rfl) aw_nil))))) ew_int)) (RaiseW.tt0 hx) h (fun h => ?_) (fun h => ?_)
    · exact aw_ret hr ew_bl (RaiseW.tt0 hx) h
    · refine aw_next ?_
      refine aw_seq ?_
      refine aw_if (tw_test (ew_op ov_ne (ew_call (aw_cons (ew_op ov_sub ew_int (ew_var rfl)) (aw_cons (ew_callP hF rfl (aw_cons (ew_var rfl) aw_nil)) (aw_cons (ew_var rfl) (aw_cons (ew_var rfl) aw_nil))))) ew_int)) (RaiseW.tt0 hx) h (fun h => ?_) (fun h => ?_)
      · exact aw_ret hr ew_bl (RaiseW.tt0 hx) h
      · refine aw_next ?_
        refine aw_seq ?_
        refine aw_for (σT := Unit) (vs := [5]) (fun s => [.pool, .dat sights, .dat event, .dat world, .dat which, .no, .no]) (.keep (.keep (.keep (.keep (.keep (.keep (.keep .nil))))))) (fw_rng1 ew_int) (fun F0 D => RetOk C B F0 D rt) (rok_chain hr) hx h (fun F0 k1 s nx bk D hr hx hn hc hb h => ?_) (fun s h => ?_)
        · refine ⟨[.pool, .dat sights, .dat event, .dat world, .dat which, .dat k1, .no], tg_name (by decide), ?_⟩
          refine aw_seq ?_
          refine aw_asg (Γ' := fun wrong => [.pool, .dat sights, .dat event, .dat world, .dat which, .dat k1, .dat wrong]) (fun _ => rfl) (ew_callP hF rfl (aw_cons (ew_len (Ew.s (ew_ix (Ew.s (ew_var rfl)) ew_int))) aw_nil)) (RaiseW.tt0 hx) h (fun wrong h => ?_)
          refine aw_if (tw_test (ew_op ov_ne (ew_call (aw_cons (ew_var rfl) (aw_cons (ew_callP hF rfl (aw_cons (ew_var rfl) aw_nil)) (aw_cons (ew_var rfl) (aw_cons (ew_var rfl) aw_nil))))) ew_int)) (RaiseW.tt0 hx) h (fun h => ?_) (fun h => ?_)
          · exact aw_ret hr ew_bl (RaiseW.tt0 hx) h
          · refine aw_next ?_
            exact at_wk (.keep (.keep (.keep (.keep (.keep (.drop (.drop .nil))))))) (hn _ h)
        · exact aw_ret hr ew_bl (RaiseW.tt0 hx) h
abbrev N_law : List Str := ["script", "state", "worlds", "people", "event", "sights", "built", "world", "other", "handed", "changed", "at", "sight"]
def t_law (K : PySem.W.Frag) (w : World) (sp__law_draw : Sp) (sp__law_event : Sp) (sp__law_handed : Sp) (sp__law_ladder : Sp) (sp__law_refuses : Sp) (sp__law_sights : Sp) (sp__law_state : Sp) (sp__law_tells : Sp) (E : XK) : TS :=
  (tSeq (tAsg (tCall sp__law_state [] E (tCons (tVar 0) tNil)) (gName 1))
    (tSeq (tAsg (tOp (rAddA K) (tC (.int 1)) (tCall sp__law_draw [] E (tCons (tVar 1) (tCons (tC (.int 10)) tNil)))) (gName 2))
    (tSeq (tAsg (tOp (rAddA K) (tC (.int 1)) (tCall sp__law_draw [] E (tCons (tVar 1) (tCons (tC (.int 4)) tNil)))) (gName 3))
    (tSeq (tAsg (tCall sp__law_event [] E (tCons (tVar 1) (tCons (tVar 2) tNil))) (gName 4))
    (tSeq (tAsg (tCall sp__law_sights [] E (tCons (tVar 1) (tCons (tVar 2) (tCons (tVar 3) tNil)))) (gName 5))
    (tSeq (tIfS (tTest (tOp (rEqA K) (tCall sp__law_draw [] E (tCons (tVar 1) (tCons (tC (.int 4)) tNil))) (tC (.int 1)))) (tSeq (tAsg (tCall sp__law_ladder [] E (tCons (tVar 1) (tCons (tVar 2) (tCons (tVar 3) tNil)))) (gName 6))
    (tSeq (tAsg (tOp (rIx K) (tVar 6) (tC (.int 0))) (gName 5))
    (tAsg (tOp (rIx K) (tVar 6) (tC (.int 1))) (gName 4)))) tNext)
    (tSeq (tAsg (tCall sp__law_draw [] E (tCons (tVar 1) (tCons (tVar 2) tNil))) (gName 7))
    (tSeq (tAsg (tCall sp__law_draw [] E (tCons (tVar 1) (tCons (tVar 2) tNil))) (gName 8))
    (tSeq (tAsg (tCB (rListA K) (tCons (tCall sp__law_handed [] E (tCons (tVar 1) (tCons (tVar 5) tNil))) tNil)) (gName 9))
    (tSeq (tIfS (tNot (tB (tCall sp__law_tells [] E (tCons (tVar 9) (tCons (tVar 5) (tCons (tVar 4) (tCons (tVar 7) (tCons (tVar 8) tNil)))))))) (tRet (tC (.bl false))) tNext)
    (tSeq (tIfS (tNot (tB (tCall sp__law_refuses [] E (tCons (tVar 1) (tCons (tVar 5) (tCons (tVar 4) (tCons (tVar 7) tNil))))))) (tRet (tC (.bl false))) tNext)
    (tSeq (tAsg (tLc (iSeq K (tVar 5)) (gName 12) tYes (tCB (rListA K) (tCons (tVar 12) tNil)) [12]) (gName 10))
    (tSeq (tAsg (tCall sp__law_draw [] E (tCons (tVar 1) (tCons (tVar 3) tNil))) (gName 11))
    (tSeq (tAsg (tOp (rIx K) (tCall sp__law_sights [] E (tCons (tVar 1) (tCons (tVar 2) (tCons (tC (.int 1)) tNil)))) (tC (.int 0))) (gSub (tVar 10) (tVar 11) rSetL))
    (tSeq (tAsg (tThen (tOp (rIx K) (tVar 10) (tVar 11)) (kTup K)) (gSub (tVar 9) (tVar 11) rSetL))
    (tRet (tCall sp__law_tells [] E (tCons (tVar 9) (tCons (tVar 10) (tCons (tVar 4) (tCons (tVar 8) (tCons (tVar 7) tNil))))))))))))))))))))))
@[irreducible] def W_law (rt : PyData → Prop) (er : XP) : Prop :=
  W__law_draw (.int 10) (fun t1 => addW (.int 1) t1 fun worlds => W__law_draw (.int 4) (fun t3 => addW (.int 1) t3 fun people => W__law_event worlds (fun event => W__law_sights worlds people (fun l1 => fzW l1 fun sights => joinW (fun k1 => W__law_draw (.int 4) (fun t7 => eqW t7 (.int 1) fun t8 => boolW t8 fun b1 => iteW b1 (W__law_ladder worlds people (fun built => seqW built fun l2 => ixW l2 (.int 0) fun sights3 => seqW built fun l3 => ixW l3 (.int 1) fun event3 => k1 sights3 event3) noX) (k1 sights event)) noX) fun sights2 event2 => W__law_draw worlds (fun world => W__law_draw worlds (fun other => W__law_handed sights2 (fun t14 => seqW t14 fun handed => W__law_tells (.list handed) sights2 event2 world other (fun t16 => noLW t16 fun t15 => boolW t15 fun b2 => iteW (!b2) (rt (.bool false)) (W__law_refuses sights2 event2 world (fun t17 => boolW t17 fun b3 => iteW (!b3) (rt (.bool false)) (seqW sights2 fun l5 => lcMW l5 (fun sight Y => seqW sight fun l6 => fzW l6 fun t18 => Y t18) fun changed => W__law_draw people (fun at_ => W__law_sights worlds (.int 1) (fun l8 => ixW l8 (.int 0) fun t20 => setW changed at_ t20 fun changed2 => ixW changed2 at_ fun t21 => seqW t21 fun l9 => tupW l9 fun t22 => setW handed at_ t22 fun handed2 => W__law_tells (.list handed2) (.list changed2) event2 other world (fun t23 => rt t23) noX) noX) noX)) noX)) noX) noX) noX) noX) noX) noX) noX) noX
theorem P_law (hw : W_law (fun d => d = .bool true) noX) (vs : List V) (H : Hp) (Q : VK) (E : XK) (h : sp_law K vs H Q E) : t_law K w (spP A St (vl1 W__law_draw)) (spP A St (vl1 W__law_event)) (spP A St (vl1 W__law_handed)) (spP A St (vl2 W__law_ladder)) (spP A St (vl3 W__law_refuses)) (spPN A St (vl2 W__law_sights)) (sp__law_state K) (spF A (vl5 W__law_tells)) E { nx := fun _ H' => Q .non H', rt := Q } (L2.start N_law vs) H := by
  obtain ⟨a, ns, rfl, hz, hl, hq⟩ := h
  refine law_state (N := N_law) (by decide) hz hl hq fun p g B D hF hr => ?_
  generalize stC p g = C at hF hr ⊢
  have hx : ∀ F0, RaiseW A C B F0 E noX := fun _ _ _ _ _ _ _ _ _ z => z.elim
  unfold W_law at hw
  generalize (fun d => d = PyData.bool true) = rt at hw hr
  generalize hF0 : (fun _ => none : Hp) = F0 at hr ⊢
  replace hx := hx F0
  have h := hw
  show At C B F0 [.no, .pool, .no, .no, .no, .no, .no, .no, .no, .no, .no, .no, .no] _
  refine aw_seq ?_
  refine aw_asg (Γ' := fun worlds => [.no, .pool, .dat worlds, .no, .no, .no, .no, .no, .no, .no, .no, .no, .no]) (fun _ => rfl) (ew_op ov_add ew_int (ew_callP hF rfl (aw_cons ew_int aw_nil))) (RaiseW.tt0 hx) h (fun worlds h => ?_)
  refine aw_seq ?_
  refine aw_asg (Γ' := fun people => [.no, .pool, .dat worlds, .dat people, .no, .no, .no, .no, .no, .no, .no, .no, .no]) (fun _ => rfl) (ew_op ov_add ew_int (ew_callP hF rfl (aw_cons ew_int aw_nil))) (RaiseW.tt0 hx) h (fun people h => ?_)
  refine aw_seq ?_
  refine aw_asg (Γ' := fun event => [.no, .pool, .dat worlds, .dat people, .dat event, .no, .no, .no, .no, .no, .no, .no, .no]) (fun _ => rfl) (ew_callP hF rfl (aw_cons (ew_var rfl) aw_nil)) (RaiseW.tt0 hx) h (fun event h => ?_)
  refine aw_seq ?_
  refine aw_asg (Γ' := fun sights => [.no, .pool, .dat worlds, .dat people, .dat event, .dat sights, .no, .no, .no, .no, .no, .no, .no]) (fun _ => rfl) (Nw.fz (nw_callP hF rfl (aw_cons (ew_var rfl) (aw_cons (ew_var rfl) aw_nil)))) (RaiseW.tt0 hx) h (fun sights h => ?_)
  refine aw_join (J := fun (k : PyData → PyData → Prop) Z => ∀ sights2 event2, k sights2 event2 → At C B F0 [.no, .pool, .dat worlds, .dat people, .dat event2, .dat sights2, .no, .no, .no, .no, .no, .no, .no] Z) h (fun sights2 event2 h => ?_) (fun k' hk h => ?_)
  · refine aw_seq ?_
    refine aw_asg (Γ' := fun world => [.no, .pool, .dat worlds, .dat people, .dat event2, .dat sights2, .no, .dat world, .no, .no, .no, .no, .no]) (fun _ => rfl) (ew_callP hF rfl (aw_cons (ew_var rfl) aw_nil)) (RaiseW.tt0 hx) h (fun world h => ?_)
    refine aw_seq ?_
    refine aw_asg (Γ' := fun other => [.no, .pool, .dat worlds, .dat people, .dat event2, .dat sights2, .no, .dat world, .dat other, .no, .no, .no, .no]) (fun _ => rfl) (ew_callP hF rfl (aw_cons (ew_var rfl) aw_nil)) (RaiseW.tt0 hx) h (fun other h => ?_)
    refine aw_seq ?_
    refine aw_asgN (Γ' := fun handed => [.no, .pool, .dat worlds, .dat people, .dat event2, .dat sights2, .no, .dat world, .dat other, .own handed, .no, .no, .no]) (fun _ => rfl) (nw_list (Ew.s (ew_callP hF rfl (aw_cons (ew_var rfl) aw_nil)))) (RaiseW.tt0 hx) h (fun handed h => ?_)
    refine aw_seq ?_
    refine aw_if (tw_not (tw_B (ew_callO (awo_own rfl (awo_cons (ew_var rfl) (awo_cons (ew_var rfl) (awo_cons (ew_var rfl) (awo_cons (ew_var rfl) awo_nil)))))))) (RaiseW.tt0 hx) h (fun h => ?_) (fun h => ?_)
    · exact aw_ret hr ew_bl (RaiseW.tt0 hx) h
    · refine aw_next ?_
      refine aw_seq ?_
      refine aw_if (tw_not (tw_B (ew_callP hF rfl (aw_cons (ew_var rfl) (aw_cons (ew_var rfl) (aw_cons (ew_var rfl) aw_nil)))))) (RaiseW.tt0 hx) h (fun h => ?_) (fun h => ?_)
      · exact aw_ret hr ew_bl (RaiseW.tt0 hx) h
      · refine aw_next ?_
        refine aw_seq ?_
        refine aw_asgN (Γ' := fun changed => [.no, .pool, .dat worlds, .dat people, .dat event2, .dat sights2, .no, .dat world, .dat other, .own handed, .own changed, .no, .no]) (fun _ => rfl) (nw_lcM (iw_seq (Ew.s (ew_var rfl))) (fun x Y h => ⟨_, _, tg_name (by decide), (Nw.fz (nw_list (Ew.s (ew_var rfl)))), h⟩)) (RaiseW.tt0 hx) h (fun changed h => ?_)
        refine aw_seq ?_
        refine aw_asg (Γ' := fun at_ => [.no, .pool, .dat worlds, .dat people, .dat event2, .dat sights2, .no, .dat world, .dat other, .own handed, .own changed, .dat at_, .no]) (fun _ => rfl) (ew_callP hF rfl (aw_cons (ew_var rfl) aw_nil)) (RaiseW.tt0 hx) h (fun at_ h => ?_)
        refine aw_seq ?_
        refine aw_set (Γ' := fun changed2 => [.no, .pool, .dat worlds, .dat people, .dat event2, .dat sights2, .no, .dat world, .dat other, .own handed, .own changed2, .dat at_, .no]) rfl (fun _ => rfl) (ew_ix (Nw.s (nw_callP hF rfl (aw_cons (ew_var rfl) (aw_cons ew_int aw_nil)))) ew_int) (ew_var rfl) (RaiseW.tt0 hx) h (fun changed2 h => ?_)
        refine aw_seq ?_
        refine aw_set (Γ' := fun handed2 => [.no, .pool, .dat worlds, .dat people, .dat event2, .dat sights2, .no, .dat world, .dat other, .own handed2, .own changed2, .dat at_, .no]) rfl (fun _ => rfl) (ew_tupleD (ew_ix (sw_own rfl) (ew_var rfl))) (ew_var rfl) (RaiseW.tt0 hx) h (fun handed2 h => ?_)
        refine at_frz 9 rfl ?_
        refine at_frz 10 rfl ?_
        show At C B F0 [.no, .pool, .dat worlds, .dat people, .dat event2, .dat sights2, .no, .dat world, .dat other, .dat (.list handed2), .dat (.list changed2), .dat at_, .no] _
        exact aw_ret hr (ew_call (aw_cons (ew_var rfl) (aw_cons (ew_var rfl) (aw_cons (ew_var rfl) (aw_cons (ew_var rfl) (aw_cons (ew_var rfl) aw_nil)))))) (RaiseW.tt0 hx) h
  · refine aw_if (tw_test (ew_op ov_eq (ew_callP hF rfl (aw_cons ew_int aw_nil)) ew_int)) (RaiseW.tt0 hx) h (fun h => ?_) (fun h => ?_)
    · refine aw_seq ?_
      refine aw_asg (Γ' := fun built => [.no, .pool, .dat worlds, .dat people, .dat event, .dat sights, .dat built, .no, .no, .no, .no, .no, .no]) (fun _ => rfl) (ew_callP hF rfl (aw_cons (ew_var rfl) (aw_cons (ew_var rfl) aw_nil))) (RaiseW.tt0 hx) h (fun built h => ?_)
      refine aw_seq ?_
      refine aw_asg (Γ' := fun sights3 => [.no, .pool, .dat worlds, .dat people, .dat event, .dat sights3, .dat built, .no, .no, .no, .no, .no, .no]) (fun _ => rfl) (ew_ix (Ew.s (ew_var rfl)) ew_int) (RaiseW.tt0 hx) h (fun sights3 h => ?_)
      refine aw_asg (Γ' := fun event3 => [.no, .pool, .dat worlds, .dat people, .dat event3, .dat sights3, .dat built, .no, .no, .no, .no, .no, .no]) (fun _ => rfl) (ew_ix (Ew.s (ew_var rfl)) ew_int) (RaiseW.tt0 hx) h (fun event3 h => ?_)
      exact at_wk (.keep (.keep (.keep (.keep (.keep (.keep (.drop (.keep (.keep (.keep (.keep (.keep (.keep .nil))))))))))))) (hk _ _ h)
    · refine aw_next ?_
      exact at_wk (.keep (.keep (.keep (.keep (.keep (.keep (.keep (.keep (.keep (.keep (.keep (.keep (.keep .nil))))))))))))) (hk _ _ h)
end Eh


namespace Eh
open PySem PySem.Spec PyProof.Rows L2
/-! the least one of the same key -/
section
variable {α β : Type} [DecidableEq α] [DecidableEq β]
def lea (key : Nat → α) (w : Nat) : Nat := ((List.range (w + 1)).filter fun u => decide (key u = key w)).headD 0
theorem head_least : ∀ {xs : List Nat}, xs.Pairwise (· < ·) → xs ≠ [] → xs.headD 0 ∈ xs ∧ ∀ u ∈ xs, xs.headD 0 ≤ u
  | [], _, h => absurd rfl h
  | x :: xs, h, _ => ⟨List.mem_cons_self, fun u hu => by
    rcases List.mem_cons.mp hu with rfl | hu
    · exact Nat.le_refl _
    · exact Nat.le_of_lt ((List.pairwise_cons.mp h).1 u hu)⟩
theorem lea_spec (key : Nat → α) (w : Nat) : key (lea key w) = key w ∧ lea key w ≤ w ∧ ∀ u, key u = key w → lea key w ≤ u := by
  have hm : w ∈ (List.range (w + 1)).filter fun u => decide (key u = key w) := List.mem_filter.mpr ⟨List.mem_range.mpr (by omega), decide_eq_true rfl⟩
  have h := head_least ((pw_range (w + 1)).filter fun u => decide (key u = key w)) (fun e => by rw [e] at hm; exact absurd hm List.not_mem_nil)
  obtain ⟨h1, h2⟩ := h
  have h3 := List.mem_filter.mp h1
  refine ⟨of_decide_eq_true h3.2, h2 w hm, fun u hu => ?_⟩
  by_cases hl : u < w + 1
  · exact h2 u (List.mem_filter.mpr ⟨List.mem_range.mpr hl, decide_eq_true hu⟩)
  · have := h2 w hm
    show lea key w ≤ u
    unfold lea
    omega
theorem lea_iff (key : Nat → α) {u w : Nat} : lea key u = lea key w ↔ key u = key w := by
  constructor
  · intro h
    rw [← (lea_spec key u).1, h, (lea_spec key w).1]
  · intro h
    obtain ⟨a1, a2, a3⟩ := lea_spec key u
    obtain ⟨b1, b2, b3⟩ := lea_spec key w
    have := a3 _ (b1.trans h.symm)
    have := b3 _ (a1.trans h)
    omega
theorem lea_congr {key : Nat → α} {key' : Nat → β} (h : ∀ u w, key u = key w ↔ key' u = key' w) : lea key = lea key' := funext fun w => by
  unfold lea
  refine congrArg (fun l : List Nat => l.headD 0) (List.filter_congr fun u _ => decide_eq_decide.mpr (h u w))
end
/-! answers, round by round -/
def sure {α : Type} [DecidableEq α] (n : Nat) (ev : List Nat) (key : Nat → α) (w : Nat) : Bool :=
  (((List.range n).filter fun u => decide (key u = key w)).all fun u => decide (u ∈ ev)) || ((List.range n).filter fun u => decide (key u = key w)).all fun u => !decide (u ∈ ev)
theorem sure_lt {α β : Type} [DecidableEq α] [DecidableEq β] {n : Nat} {ev : List Nat} {key : Nat → α} {key' : Nat → β} {w : Nat} (h : ∀ u, u < n → (key u = key w ↔ key' u = key' w)) : sure n ev key w = sure n ev key' w := by
  unfold sure
  rw [show ((List.range n).filter fun u => decide (key u = key w)) = (List.range n).filter fun u => decide (key' u = key' w) from List.filter_congr fun u hu => decide_eq_decide.mpr (h u (List.mem_range.mp hu))]
theorem lea_lt {α β : Type} [DecidableEq α] [DecidableEq β] {n : Nat} {key : Nat → α} {key' : Nat → β} {w : Nat} (h : ∀ u, u < n → (key u = key w ↔ key' u = key' w)) (hw : w < n) : lea key w = lea key' w := by
  unfold lea
  refine congrArg (fun l : List Nat => l.headD 0) (List.filter_congr fun u hu => decide_eq_decide.mpr (h u (by have := List.mem_range.mp hu; omega)))
theorem sure_congr {α β : Type} [DecidableEq α] [DecidableEq β] {n : Nat} {ev : List Nat} {key : Nat → α} {key' : Nat → β} (h : ∀ u w, key u = key w ↔ key' u = key' w) (w : Nat) : sure n ev key w = sure n ev key' w := by
  unfold sure
  rw [show ((List.range n).filter fun u => decide (key u = key w)) = (List.range n).filter fun u => decide (key' u = key' w) from List.filter_congr fun u _ => decide_eq_decide.mpr (h u w)]
def ansL (n : Nat) (ss : List (List Int)) (ev : List Nat) (past : Nat → Nat) (w : Nat) : List Nat := ss.map fun s => if sure n ev (fun u => (s.getD u 0, past u)) w = true then 1 else 0
def pastF (n : Nat) (ss : List (List Int)) (ev : List Nat) : Nat → Nat → Nat
  | 0 => fun _ => 0
  | t + 1 => lea fun w => (pastF n ss ev t w, ansL n ss ev (pastF n ss ev t) w)
def rk (n : Nat) (ss : List (List Int)) (ev : List Nat) (t : Nat) (s : List Int) : Nat → Nat := lea fun w => (s.getD w 0, pastF n ss ev t w)
section
variable {n : Nat} {ss : List (List Int)} {ev : List Nat} {t u w : Nat} {s : List Int}
theorem past_iff : pastF n ss ev (t + 1) u = pastF n ss ev (t + 1) w ↔ pastF n ss ev t u = pastF n ss ev t w ∧ ansL n ss ev (pastF n ss ev t) u = ansL n ss ev (pastF n ss ev t) w := by
  show lea _ u = lea _ w ↔ _
  rw [lea_iff, Prod.mk.injEq]
theorem rk_iff : rk n ss ev t s u = rk n ss ev t s w ↔ s.getD u 0 = s.getD w 0 ∧ pastF n ss ev t u = pastF n ss ev t w := by
  unfold rk
  rw [lea_iff, Prod.mk.injEq]
theorem rk_zero : rk n ss ev 0 s = lea fun w => s.getD w 0 := lea_congr fun u w => by
  rw [Prod.mk.injEq]
  exact ⟨fun h => h.1, fun h => ⟨h, rfl⟩⟩
theorem rk_succ : rk n ss ev (t + 1) s = lea fun w => (rk n ss ev t s w, ansL n ss ev (pastF n ss ev t) w) := lea_congr fun u w => by
  rw [Prod.mk.injEq, Prod.mk.injEq, past_iff, rk_iff, and_assoc]
theorem sure_rk : sure n ev (rk n ss ev t s) w = sure n ev (fun u => (s.getD u 0, pastF n ss ev t u)) w := sure_congr (fun u w => by rw [rk_iff, Prod.mk.injEq]) w
/-- nothing new for anybody -/
def Stop (n : Nat) (ss : List (List Int)) (ev : List Nat) (t : Nat) : Prop := ss.map (fun s => (List.range n).map (rk n ss ev t s)) = ss.map fun s => (List.range n).map (rk n ss ev (t + 1) s)
instance (t : Nat) : Decidable (Stop n ss ev t) := by unfold Stop; infer_instance
def reps86 (n : Nat) (ss : List (List Int)) (ev : List Nat) (t : Nat) : List Nat := (List.range n).filter fun w => decide (lea (pastF n ss ev t) w = w)
theorem reps_grow (h : ¬ Stop n ss ev t) : (reps86 n ss ev t).length < (reps86 n ss ev (t + 1)).length := by
  -- a pair of worlds that the round parts
  have hp : ∃ u w, u < n ∧ w < n ∧ pastF n ss ev t u = pastF n ss ev t w ∧ pastF n ss ev (t + 1) u ≠ pastF n ss ev (t + 1) w := Classical.byContradiction fun hno => h (by
    refine List.map_congr_left fun s _ => List.map_congr_left fun w hw => ?_
    have hw := List.mem_range.mp hw
    have h1 := lea_spec (fun w => (s.getD w 0, pastF n ss ev t w)) w
    have h2 := lea_spec (fun w => (s.getD w 0, pastF n ss ev (t + 1) w)) w
    have e1 := Prod.mk.injEq .. ▸ h1.1
    have e2 := Prod.mk.injEq .. ▸ h2.1
    show lea _ w = lea _ w
    refine Nat.le_antisymm (h1.2.2 _ ?_) (h2.2.2 _ ?_)
    · rw [Prod.mk.injEq]; exact ⟨e2.1, (past_iff.mp e2.2).1⟩
    · rw [Prod.mk.injEq]
      refine ⟨e1.1, Classical.byContradiction fun hne => hno ⟨_, w, ?_, hw, e1.2, hne⟩⟩
      have := h1.2.1
      omega)
  obtain ⟨u, w, hu, hw, hsame, hne⟩ := hp
  have hsub : ∀ x ∈ reps86 n ss ev t, x ∈ reps86 n ss ev (t + 1) := fun x hx => by
    have hx := List.mem_filter.mp hx
    have he := of_decide_eq_true hx.2
    refine List.mem_filter.mpr ⟨hx.1, decide_eq_true ?_⟩
    have h1 := lea_spec (pastF n ss ev (t + 1)) x
    have h2 := (lea_spec (pastF n ss ev t) x).2.2 _ (past_iff.mp h1.1).1
    omega
  have hl : ∀ x, x ∈ reps86 n ss ev (t + 1) ↔ x < n ∧ lea (pastF n ss ev (t + 1)) x = x := fun x => by unfold reps86; rw [List.mem_filter, List.mem_range, decide_eq_true_eq]
  have hl0 : ∀ x, x ∈ reps86 n ss ev t ↔ x < n ∧ lea (pastF n ss ev t) x = x := fun x => by unfold reps86; rw [List.mem_filter, List.mem_range, decide_eq_true_eq]
  rcases Nat.lt_or_ge (reps86 n ss ev t).length (reps86 n ss ev (t + 1)).length with h | h
  · exact h
  have heq := sub_len (reps86 n ss ev t) (reps86 n ss ev (t + 1)) ((pw_range n).filter _) ((pw_range n).filter _) hsub h
  -- the least ones of u and of w are the same then
  have key : ∀ v, v < n → lea (pastF n ss ev (t + 1)) v = lea (pastF n ss ev t) v := fun v hv => by
    have h1 := lea_spec (pastF n ss ev (t + 1)) v
    have hr : lea (pastF n ss ev (t + 1)) (lea (pastF n ss ev (t + 1)) v) = lea (pastF n ss ev (t + 1)) v := (lea_iff _).mpr h1.1
    have hm := heq _ ((hl _).mpr ⟨by omega, hr⟩)
    have h2 := ((hl0 _).mp hm).2
    rw [← h2]
    exact (lea_iff _).mpr (past_iff.mp h1.1).1
  exact absurd ((lea_iff _).mp ((key u hu).trans (((lea_iff (pastF n ss ev t)).mpr hsame).trans (key w hw).symm))) hne
theorem stop_soon (n10 : n ≤ 10) (n1 : 1 ≤ n) : ∃ T, T ≤ 9 ∧ Stop n ss ev T ∧ ∀ t < T, ¬ Stop n ss ev t := by
  have hex : ∃ t, t ≤ 9 ∧ Stop n ss ev t := Classical.byContradiction fun hno => by
    have hg : ∀ t, t ≤ 10 → t + 1 ≤ (reps86 n ss ev t).length := fun t => by
      induction t with
      | zero =>
        intro _
        have : (0 : Nat) ∈ reps86 n ss ev 0 := List.mem_filter.mpr ⟨List.mem_range.mpr n1, decide_eq_true (by have := (lea_spec (pastF n ss ev 0) 0).2.1; omega)⟩
        exact List.length_pos_of_mem this
      | succ t ih =>
        intro ht
        have h1 := ih (by omega)
        have h2 := reps_grow (n := n) (ss := ss) (ev := ev) (t := t) fun h => hno ⟨t, by omega, h⟩
        omega
    have h1 := hg 10 (by omega)
    have h2 : (reps86 n ss ev 10).length ≤ n := (lot_filter n _).len
    omega
  obtain ⟨T, hT, hmin⟩ := least_of hex
  exact ⟨T, hT.1, hT.2, fun t ht hs => absurd (hmin t ⟨by omega, hs⟩) (by omega)⟩
end
/-! things compared -/
theorem eqvT_lots : ∀ (xs ys : List Nat), PyData.eqv (lotN xs) (lotN ys) = decide (xs = ys)
  | [], [] => rfl
  | [], _ :: _ => rfl
  | _ :: _, [] => rfl
  | x :: xs, y :: ys => by
    show (((x : Int) == (y : Int)) && PyData.eqv (lotN xs) (lotN ys)) = _
    rw [eqvT_lots xs ys, Bool.eq_iff_iff, Bool.and_eq_true, beq_iff_eq, decide_eq_true_eq, decide_eq_true_eq, List.cons.injEq, Int.ofNat_inj]
theorem eqv_each {α : Type} [DecidableEq α] {e : α → PyData} (h : ∀ x y, PyData.eqv (e x) (e y) = decide (x = y)) : ∀ (xs ys : List α), PyData.eqv (.list (xs.map e)) (.list (ys.map e)) = decide (xs = ys)
  | [], [] => rfl
  | [], _ :: _ => rfl
  | _ :: _, [] => rfl
  | x :: xs, y :: ys => by
    show (PyData.eqv (e x) (e y) && PyData.eqv (.list (xs.map e)) (.list (ys.map e))) = _
    rw [eqv_each h xs ys, h, Bool.eq_iff_iff, Bool.and_eq_true, decide_eq_true_eq, decide_eq_true_eq, decide_eq_true_eq, List.cons.injEq]
abbrev EqOk {α : Type} [DecidableEq α] (e : α → PyData) : Prop := ∀ x y (k : DP), k (.bool (decide (x = y))) → eqW (e x) (e y) k
theorem eqOk_nat : EqOk (fun x : Nat => iD x) := fun x y k h => eqN_ok h
theorem eqOk_int : EqOk (fun x : Int => PyData.int x) := fun x y k h => eqI_ok h
theorem eqOk_lot : EqOk (fun x : List Nat => lotN x) := fun x y k h => ⟨(shd_lotT x (k := 0)).sh (by decide), (shd_lotT y (k := 0)).sh (by decide), by rw [eqvT_lots]; exact h⟩
theorem at_rg {α : Type} {n w : Nat} (f : Nat → α) (h : w < n) : ((List.range n).map f)[w]? = some (f w) := by rw [List.getElem?_map, List.getElem?_range h]; rfl
/-- the first of the same key, in a row that reaches far enough -/
theorem first_lea {α : Type} [DecidableEq α] (key : Nat → α) {m w : Nat} (h : w < m) : ((List.range m).filter fun u => decide (key u = key w))[0]? = some (lea key w) := by
  have hm : w ∈ (List.range m).filter fun u => decide (key u = key w) := List.mem_filter.mpr ⟨List.mem_range.mpr h, decide_eq_true rfl⟩
  have hne : (List.range m).filter (fun u => decide (key u = key w)) ≠ [] := fun e => by rw [e] at hm; exact absurd hm List.not_mem_nil
  obtain ⟨h1, h2⟩ := head_least ((pw_range m).filter fun u => decide (key u = key w)) hne
  have h3 := List.mem_filter.mp h1
  obtain ⟨a1, a2, a3⟩ := lea_spec key w
  have h4 := a3 _ (of_decide_eq_true h3.2)
  have h5 := h2 (lea key w) (List.mem_filter.mpr ⟨List.mem_range.mpr (by omega), decide_eq_true a1⟩)
  have e : ((List.range m).filter fun u => decide (key u = key w)).headD 0 = lea key w := Nat.le_antisymm h5 h4
  cases q : (List.range m).filter fun u => decide (key u = key w) with
  | nil => exact absurd q hne
  | cons x r => rw [q] at e; exact congrArg some e
section
variable {rt : PyData → Prop} {rn : List PyData → Prop} {er : XP} {d e v : PyData} {n w k t T : Nat} {s : List Int} {ss : List (List Int)} {ev : List Nat}
abbrev ofN (n : Nat) (f : Nat → Nat) : List PyData := (List.range n).map fun w => iD (f w)
theorem w_least {α β : Type} [DecidableEq α] [DecidableEq β] {e1 : α → PyData} {e2 : β → PyData} {k1 : Nat → α} {k2 : Nat → β} (q1 : EqOk e1) (q2 : EqOk e2) (hn : n ≤ 1000) {d1 d2 : PyData}
    (s1 : ∀ k : List PyData → Prop, k ((List.range n).map fun w => e1 (k1 w)) → seqW d1 k) (s2 : ∀ k : List PyData → Prop, k ((List.range n).map fun w => e2 (k2 w)) → seqW d2 k) (h : rn (ofN n (lea fun u => (k1 u, k2 u)))) : W__law_least d1 d2 rn er := by
  unfold W__law_least
  refine ⟨by simp, s1 _ ?_⟩
  show rngW (.int (((List.range n).map fun w => e1 (k1 w)).length : Nat)) _
  rw [List.length_map, List.length_range]
  refine rng_ok (by omega) (for_ok iD (fun i st => st = ofN i (lea fun u => (k1 u, k2 u))) rfl ?_ ?_)
  · rintro i x st hx rfl nx bk h1 h2
    have hi : i < n := by simpa using (List.getElem?_eq_some_iff.mp hx).1
    rw [List.getElem?_range hi] at hx
    cases hx
    show rngW (.int ((i : Int) + 1)) _
    rw [show ((i : Int) + 1) = ((i + 1 : Nat) : Int) by omega]
    refine rng_ok (by omega) (lc_ok iD iD (fun u => decide ((k1 u, k2 u) = (k1 i, k2 i))) (by simp; omega) (fun u hu Y N h3 h4 => ?_) ?_)
    · have hu := List.mem_range.mp hu
      refine and_ok (decide (k1 u = k1 i)) (fun k h => s1 _ (ix_ok (at_rg _ (by omega)) (s1 _ (ix_ok (at_rg _ hi) (q1 _ _ _ h))))) (fun hb => ?_) fun hb => h4 (decide_eq_false fun e => ?_)
      · refine s2 _ (ix_ok (at_rg _ (by omega)) (s2 _ (ix_ok (at_rg _ hi) (q2 _ _ _ ?_))))
        show iteW (decide (k2 u = k2 i)) _ _
        refine ite_ok (fun h => h3 (decide_eq_true ?_)) fun h => h4 (decide_eq_false fun e => ?_)
        · rw [of_decide_eq_true hb, of_decide_eq_true h]
        · rw [Prod.mk.injEq] at e
          exact absurd e.2 (of_decide_eq_false h)
      · rw [Prod.mk.injEq] at e
        exact absurd e.1 (of_decide_eq_false hb)
    · refine ix_ok (n := 0) (d := iD (lea (fun u => (k1 u, k2 u)) i)) (by
        rw [List.getElem?_map, first_lea (fun u => (k1 u, k2 u)) (show i < i + 1 by omega)]; rfl) ⟨by simp; omega, h1 _ ?_⟩
      unfold ofN
      rw [List.range_succ, List.map_append]; rfl
  · rintro st rfl
    rw [List.length_range]; exact h
theorem seq_row (hs : s.length = n) : ∀ k : List PyData → Prop, k ((List.range n).map fun w => PyData.int (s.getD w 0)) → seqW (lstR s) k := fun k h => by
  have e : s.map PyData.int = (List.range n).map fun w => PyData.int (s.getD w 0) := by
    refine List.ext_getElem? fun i => ?_
    rw [List.getElem?_map, List.getElem?_map]
    by_cases hi : i < n
    · rw [List.getElem?_range hi, List.getElem?_eq_getElem (by omega)]
      show some (PyData.int s[i]) = some (.int (s.getD i 0))
      rw [List.getD_eq_getElem?_getD, List.getElem?_eq_getElem (by omega)]; rfl
    · rw [List.getElem?_eq_none (by omega), List.getElem?_eq_none (by simpa using hi)]; rfl
  show k (s.map PyData.int)
  rw [e]; exact h
theorem all_len {l : List Nat} {p : Nat → Bool} : (l.filter p).length = l.length ↔ l.all p = true := by
  rw [List.all_eq_true, List.length_filter_eq_length_iff]
theorem none_len {l : List Nat} {p : Nat → Bool} : (l.filter p).length = 0 ↔ (l.all fun u => !p u) = true := by
  rw [List.length_eq_zero_iff, List.filter_eq_nil_iff, List.all_eq_true]
  exact ⟨fun h u hu => by have := h u hu; simpa using this, fun h u hu => by have := h u hu; simpa using this⟩
theorem w_answers {p : Nat → Nat} (g : GoodS n ss) (he : LotD ev e) (h : rn ((List.range n).map fun w => lotN (ansL n ss ev p w))) : W__law_answers (.list (ss.map lstR)) (.list (ofN n p)) e rn er := by
  unfold W__law_answers
  have n10 := g.n10
  have p4 := g.p4
  refine ⟨by simp, ?_⟩
  show rngW (.int ((ofN n p).length : Nat)) _
  rw [List.length_map, List.length_range]
  refine rng_ok (by omega) (for_ok iD (fun i st => st = (List.range i).map fun w => lotN (ansL n ss ev p w)) rfl ?_ ?_)
  · rintro i x st hx rfl nx bk h1 h2
    have hi : i < n := by simpa using (List.getElem?_eq_some_iff.mp hx).1
    rw [List.getElem?_range hi] at hx
    cases hx
    refine ⟨by simp, ?_⟩
    show forW _ _ (ss.map lstR) _
    refine for_ok lstR (fun j st => st = ((ansL n ss ev p i).take j).map iD) rfl ?_ ?_
    · rintro j s st hs rfl nx' bk' h3 h4
      have hms := List.mem_of_getElem? hs
      have hsl := (g.row s hms).1
      have hj := (List.getElem?_eq_some_iff.mp hs).1
      show rngW (.int ((ofN n p).length : Nat)) _
      rw [List.length_map, List.length_range]
      have hra : ∀ u, u < n → (s.map PyData.int)[u]? = some (.int (s.getD u 0)) := fun u hu => row_at (by omega)
      refine rng_ok (by omega) (lc_ok iD iD (fun u => decide ((s.getD u 0, p u) = (s.getD i 0, p i))) (by simp; omega) (fun u hu Y N h5 h6 => ?_) ?_)
      · have hu := List.mem_range.mp hu
        refine and_ok (decide (s.getD u 0 = s.getD i 0)) (fun k h => ix_ok (hra u hu) (ix_ok (hra i hi) (eqI_ok h))) (fun hb => ?_) fun hb => h6 (decide_eq_false fun e => ?_)
        · refine ix_ok (at_rg _ hu) (ix_ok (at_rg _ hi) (eqN_ok ?_))
          refine ite_ok (fun h => h5 (decide_eq_true ?_)) fun h => h6 (decide_eq_false fun e => ?_)
          · rw [of_decide_eq_true hb, of_decide_eq_true h]
          · rw [Prod.mk.injEq] at e
            exact absurd e.2 (of_decide_eq_false h)
        · rw [Prod.mk.injEq] at e
          exact absurd e.1 (of_decide_eq_false hb)
      generalize hleft : ((List.range n).filter fun u => decide ((s.getD u 0, p u) = (s.getD i 0, p i))) = left
      have hll : left.length ≤ n := by rw [← hleft]; exact (lot_filter n _).len
      refine lc_ok iD iD (fun u => decide (u ∈ ev)) (by omega) (fun u hu Y N h5 h6 => he.seq (inN_ok (ite_ok h5 h6))) ?_
      show orW (fun k3 => eqW (.int (((left.filter fun u => decide (u ∈ ev)).map iD).length : Nat)) (.int 0) fun t12 => boolW t12 fun b5 => k3 b5) (fun k4 => eqW (.int (((left.filter fun u => decide (u ∈ ev)).map iD).length : Nat)) (.int ((left.map iD).length : Nat)) fun t14 => boolW t14 fun b6 => k4 b6) _
      rw [List.length_map, List.length_map]
      have hS : sure n ev (fun u => (s.getD u 0, p u)) i = ((left.all fun u => decide (u ∈ ev)) || left.all fun u => !decide (u ∈ ev)) := by unfold sure; rw [hleft]
      have hat : (ansL n ss ev p i)[j]? = some (if sure n ev (fun u => (s.getD u 0, p u)) i = true then 1 else 0) := by unfold ansL; rw [List.getElem?_map, hs]; rfl
      have hlen : (((ansL n ss ev p i).take j).map iD).length < 100000 := by
        rw [List.length_map, List.length_take]
        have : (ansL n ss ev p i).length = ss.length := by unfold ansL; rw [List.length_map]
        omega
      have go : ∀ b : Bool, b = sure n ev (fun u => (s.getD u 0, p u)) i → iteW b (appW (((ansL n ss ev p i).take j).map iD) (.int 1) fun row2 => nx' row2) (appW (((ansL n ss ev p i).take j).map iD) (.int 0) fun row3 => nx' row3) := fun b hb => by
        refine ite_ok (fun h => ⟨hlen, h3 _ ?_⟩) fun h => ⟨hlen, h3 _ ?_⟩
        · rw [List.take_add_one, hat, List.map_append, ← hb, if_pos h]; rfl
        · rw [List.take_add_one, hat, List.map_append, ← hb, if_neg (by rw [h]; exact Bool.false_ne_true)]; rfl
      refine or_ok (decide ((left.filter fun u => decide (u ∈ ev)).length = 0)) (fun k h => eqN_ok (j := 0) h) (fun hb => eqN_ok (go _ ?_)) fun hb => go _ ?_
      · rw [hS, Bool.eq_iff_iff, decide_eq_true_eq, all_len, Bool.or_eq_true]
        exact ⟨.inl, fun h => h.elim id fun h => absurd (none_len.mpr h) (of_decide_eq_false hb)⟩
      · rw [hS, none_len.mp (of_decide_eq_true hb), Bool.or_true]
    · rintro st rfl
      have : (ansL n ss ev p i).take ss.length = ansL n ss ev p i := List.take_of_length_le (by unfold ansL; rw [List.length_map]; exact Nat.le_refl _)
      rw [this]
      refine ⟨by simp; omega, h1 _ ?_⟩
      rw [List.range_succ, List.map_append]; rfl
  · rintro st rfl
    rw [List.length_range]; exact h
/-! the law's rounds -/
abbrev rowsD (n : Nat) (ss : List (List Int)) (ev : List Nat) (t : Nat) : PyData := .list ((List.range n).map fun w => lotN (ansL n ss ev (pastF n ss ev t) w))
abbrev pastD (n : Nat) (ss : List (List Int)) (ev : List Nat) (t : Nat) : PyData := .list (ofN n (pastF n ss ev t))
structure Ends86 (n : Nat) (ss : List (List Int)) (ev : List Nat) (T : Nat) : Prop where
  le : T ≤ 9
  stop : Stop n ss ev T
  no : ∀ t < T, ¬ Stop n ss ev t
abbrev lstN (l : List Nat) : PyData := .list (l.map iD)
theorem eqv_lsts (xs ys : List (List Nat)) : PyData.eqv (.list (xs.map lstN)) (.list (ys.map lstN)) = decide (xs = ys) := eqv_each (e := lstN) eqv_lots xs ys
theorem shd_lsts (xs : List (List Nat)) : ShD 2 (.list (xs.map lstN)) := shD_list fun d hd => by
  obtain ⟨l, _, rfl⟩ := List.mem_map.mp hd
  exact shd_lot l
theorem w_leastP (hs : s.length = n) (hn : n ≤ 1000) (h : rn (ofN n (rk n ss ev t s))) : W__law_least (lstR s) (pastD n ss ev t) rn er :=
  w_least (k1 := fun w => s.getD w 0) (k2 := pastF n ss ev t) eqOk_int eqOk_nat hn (seq_row hs) (fun k h => h) h
theorem ansL_len {p : Nat → Nat} : (ansL n ss ev p w).length = ss.length := by unfold ansL; rw [List.length_map]
theorem w_rounds (g : GoodS n ss) (he : LotD ev e) (hT : Ends86 n ss ev T) (h : rt (.tuple [.list ((List.range (T + 1)).map (rowsD n ss ev)), pastD n ss ev (T + 1)])) : W__law_rounds (.list (ss.map lstR)) e rt er := by
  unfold W__law_rounds
  obtain ⟨s0, h0, hl0⟩ := g.at0
  have n10 := g.n10
  have p4 := g.p4
  have hT9 := hT.le
  refine ix_ok (n := 0) (rows_at h0) ?_
  refine lcM_ok (xs := s0) PyData.int (fun _ => .int 0) (by omega) (fun x hx Y hY => hY) ⟨by simp, ?_⟩
  have h00 : (s0.map fun _ => PyData.int 0) = ofN n (pastF n ss ev 0) := by
    unfold ofN
    rw [show (List.range n).map (fun w => iD (pastF n ss ev 0 w)) = (List.range n).map fun _ => PyData.int 0 from rfl, List.map_const', List.map_const', List.length_range, hl0]
  rw [h00]
  refine rng_ok (n := 12) (by decide) (for_ok iD (fun i st => (i ≤ T ∧ st = ((List.range i).map (rowsD n ss ev), PyData.bool true, pastD n ss ev i)) ∨ (T < i ∧ st = ((List.range (T + 1)).map (rowsD n ss ev), PyData.bool false, pastD n ss ev (T + 1)))) (.inl ⟨Nat.zero_le _, rfl⟩) ?_ ?_)
  · rintro i x st hx hst nx bk h1 h2
    rcases hst with ⟨hi, rfl⟩ | ⟨hi, rfl⟩
    · show W__law_answers (.list (ss.map lstR)) (.list (ofN n (pastF n ss ev i))) e _ _
      refine w_answers g he ⟨by simp; omega, ?_⟩
      have hl : W__law_least (pastD n ss ev i) (rowsD n ss ev i) (fun l6 => fzW l6 fun finer => seqW (PyData.list (ss.map lstR)) fun l7 => lcMW l7 (fun sight Y2 => W__law_least sight (pastD n ss ev i) (fun l8 => fzW l8 fun t6 => Y2 t6) noX) fun l9 => fzW l9 fun was => seqW (PyData.list (ss.map lstR)) fun l10 => lcMW l10 (fun sight2 Y3 => W__law_least sight2 finer (fun l11 => fzW l11 fun t8 => Y3 t8) noX) fun l12 => fzW l12 fun t9 => neW was t9 fun going2 => letW finer fun past2 => nx ((List.range i).map (rowsD n ss ev) ++ [rowsD n ss ev i], going2, past2)) er := by
        refine w_least (k1 := pastF n ss ev i) (k2 := ansL n ss ev (pastF n ss ev i)) eqOk_nat eqOk_lot (by omega) (fun k h => h) (fun k h => h) ?_
        show lcMW (ss.map lstR) _ _
        refine lcM_ok lstR (fun s => lstN ((List.range n).map (rk n ss ev i s))) (by omega) (fun s hs Y hY => w_leastP (t := i) (g.row s hs).1 (by omega) ?_) ?_
        · show Y (.list (ofN n (rk n ss ev i s)))
          have e : ofN n (rk n ss ev i s) = ((List.range n).map (rk n ss ev i s)).map iD := by unfold ofN; rw [List.map_map]; rfl
          rw [e]; exact hY
        show lcMW (ss.map lstR) _ _
        refine lcM_ok lstR (fun s => lstN ((List.range n).map (rk n ss ev (i + 1) s))) (by omega) (fun s hs Y hY => w_leastP (t := i + 1) (g.row s hs).1 (by omega) ?_) ?_
        · show Y (.list (ofN n (rk n ss ev (i + 1) s)))
          have e : ofN n (rk n ss ev (i + 1) s) = ((List.range n).map (rk n ss ev (i + 1) s)).map iD := by unfold ofN; rw [List.map_map]; rfl
          rw [e]; exact hY
        have em : ∀ j, (ss.map fun s => lstN ((List.range n).map (rk n ss ev j s))) = (ss.map fun s => (List.range n).map (rk n ss ev j s)).map lstN := fun j => by rw [List.map_map]; rfl
        rw [em, em]
        have hr : (List.range i).map (rowsD n ss ev) ++ [rowsD n ss ev i] = (List.range (i + 1)).map (rowsD n ss ev) := by rw [List.range_succ, List.map_append]; rfl
        rw [hr]
        refine ⟨(shd_lsts _).sh (by decide), (shd_lsts _).sh (by decide), ?_⟩
        rw [eqv_lsts]
        by_cases hs : Stop n ss ev i
        · have hiT : i = T := by
            rcases Nat.lt_or_ge i T with h | h
            · exact absurd hs (hT.no i h)
            · omega
          subst hiT
          rw [decide_eq_true (show (ss.map fun s => (List.range n).map (rk n ss ev i s)) = ss.map fun s => (List.range n).map (rk n ss ev (i + 1) s) from hs)]
          exact h1 _ (.inr ⟨by omega, rfl⟩)
        · have hiT : i ≠ T := fun e => hs (e ▸ hT.stop)
          rw [decide_eq_false (show ¬ (ss.map fun s => (List.range n).map (rk n ss ev i s)) = ss.map fun s => (List.range n).map (rk n ss ev (i + 1) s) from hs)]
          exact h1 _ (.inl ⟨by omega, rfl⟩)
      exact hl
    · exact h1 _ (.inr ⟨by omega, rfl⟩)
  · rintro st hst
    rw [List.length_range] at hst
    rcases hst with ⟨hi, _⟩ | ⟨_, rfl⟩
    · omega
    · exact ⟨by simp, h⟩
/-! the program's rounds -/
theorem w_numbered (hr : RowD s d) (hs : s.length = n) (hn : n ≤ 1000) (h : rt (lotN ((List.range n).map (lea fun u => s.getD u 0)))) : W_numbered d rt er := by
  unfold W_numbered
  refine hr.seq ?_
  show rngW (.int ((s.map PyData.int).length : Nat)) _
  rw [List.length_map, hs]
  refine rng_ok (by omega) (lcM_ok iD (fun w => iD (lea (fun u => s.getD u 0) w)) (by simp; omega) (fun w hw Y hY => ?_) ?_)
  · have hw := List.mem_range.mp hw
    refine w_possible hr (by omega) (by omega) (ix_ok (n := 0) (d := iD (lea (fun u => s.getD u 0) w)) ?_ hY)
    unfold partN
    rw [hs, List.getElem?_map, first_lea (fun u => s.getD u 0) hw]; rfl
  · have e : (List.range n).map (fun w => iD (lea (fun u => s.getD u 0) w)) = ((List.range n).map (lea fun u => s.getD u 0)).map iD := by rw [List.map_map]; rfl
    rw [e]; exact h
abbrev rowT (n : Nat) (r : Nat → Nat) : PyData := lotN ((List.range n).map r)
def rI (n : Nat) (r : Nat → Nat) : List Int := (List.range n).map fun u => ((r u : Nat) : Int)
theorem rI_len {r : Nat → Nat} : (rI n r).length = n := by unfold rI; rw [List.length_map, List.length_range]
theorem rI_at {r : Nat → Nat} (h : w < n) : (rI n r).getD w 0 = (r w : Int) := by
  unfold rI
  rw [List.getD_eq_getElem?_getD, at_rg _ h]; rfl
theorem rI_tup (r : Nat → Nat) : tupR (rI n r) = rowT n r := by
  unfold rI
  show PyData.tuple _ = PyData.tuple _
  rw [List.map_map, List.map_map]; rfl
theorem rI_row (r : Nat → Nat) : RowD (rI n r) (rowT n r) := .inr (rI_tup r).symm
theorem known_sure {r : Nat → Nat} (hw : w < n) : sure n ev r w = (decide (w ∈ knownN (rI n r) ev) || decide (w ∈ knownN (rI n r) ((List.range n).filter fun u => !decide (u ∈ ev)))) := by
  have hp : ∀ u, u ∈ partN (rI n r) w ↔ u < n ∧ r u = r w := fun u => by
    rw [mem_part, rI_len]
    refine and_congr_right fun hu => ?_
    rw [rI_at hu, rI_at hw, Int.ofNat_inj]
  unfold sure
  congr 1
  · rw [Bool.eq_iff_iff, List.all_eq_true, decide_eq_true_eq, mem_known, rI_len]
    constructor
    · exact fun h => ⟨hw, fun u hu => of_decide_eq_true (h u (List.mem_filter.mpr ⟨List.mem_range.mpr ((hp u).mp hu).1, decide_eq_true ((hp u).mp hu).2⟩))⟩
    · exact fun h u hu => decide_eq_true (h.2 u ((hp u).mpr ⟨List.mem_range.mp (List.mem_filter.mp hu).1, of_decide_eq_true (List.mem_filter.mp hu).2⟩))
  · rw [Bool.eq_iff_iff, List.all_eq_true, decide_eq_true_eq, mem_known, rI_len]
    constructor
    · refine fun h => ⟨hw, fun u hu => ?_⟩
      have h2 := (hp u).mp hu
      exact List.mem_filter.mpr ⟨List.mem_range.mpr h2.1, h u (List.mem_filter.mpr ⟨List.mem_range.mpr h2.1, decide_eq_true h2.2⟩)⟩
    · exact fun h u hu => (List.mem_filter.mp (h.2 u ((hp u).mpr ⟨List.mem_range.mp (List.mem_filter.mp hu).1, of_decide_eq_true (List.mem_filter.mp hu).2⟩))).2
theorem zip_rep {α : Type} (f : α → PyData) (e : PyData) : ∀ xs : List α, zipD (xs.map f) (List.replicate xs.length e) = xs.map fun x => .tuple [f x, e]
  | [] => rfl
  | x :: xs => by
    show PyData.tuple [f x, e] :: zipD (xs.map f) (List.replicate xs.length e) = _
    rw [zip_rep f e xs]; rfl
theorem w_answers_at {rs : List (Nat → Nat)} (hn : n ≤ 10) (hp : rs.length ≤ 4) (hw : w < n) (h : rt (lotN (rs.map fun r => if sure n ev r w = true then 1 else 0))) : W_answers_at (.list (rs.map (rowT n))) (.list (List.replicate rs.length (lotN ev))) (iD w) rt er := by
  unfold W_answers_at
  refine ⟨by simp, ?_⟩
  show forW _ _ (zipD (rs.map (rowT n)) (List.replicate rs.length (lotN ev))) _
  rw [zip_rep]
  refine for_ok (fun r => .tuple [rowT n r, lotN ev]) (fun j st => st = ((rs.map fun r => if sure n ev r w = true then 1 else 0).take j).map iD) rfl ?_ ?_
  · rintro j r st hr rfl nx bk h1 h2
    have hj := (List.getElem?_eq_some_iff.mp hr).1
    show rngW (.int ((((List.range n).map r).map iD).length : Nat)) _
    rw [List.length_map, List.length_map, List.length_range]
    refine rng_ok (by omega) (lc_ok iD iD (fun u => !decide (u ∈ ev)) (by simp; omega) (fun u hu Y N h3 h4 => niN_ok (ite_ok h3 h4)) ?_)
    have hat : (rs.map fun r => if sure n ev r w = true then 1 else 0)[j]? = some (if sure n ev r w = true then 1 else 0) := by rw [List.getElem?_map, hr]; rfl
    have hlen : (((rs.map fun r => if sure n ev r w = true then 1 else 0).take j).map iD).length < 100000 := by
      rw [List.length_map, List.length_take, List.length_map]; omega
    have fin : ∀ b : Bool, b = sure n ev r w → appW (((rs.map fun r => if sure n ev r w = true then 1 else 0).take j).map iD) (.int (if b = true then 1 else 0)) fun found2 => nx found2 := fun b hb => ⟨hlen, h1 _ (by
      rw [List.take_add_one, hat, List.map_append, ← hb]
      cases b <;> rfl)⟩
    have hS := known_sure (ev := ev) (r := r) hw
    refine w_known_at (rI_row r) (.inl rfl) (by rw [rI_len]; omega) (inN_ok ?_)
    refine ite_ok (fun h => fin true ?_) fun h => ?_
    · rw [hS, h]; rfl
    · refine w_known_at (rI_row r) (.inl rfl) (by rw [rI_len]; omega) (inN_ok (fin _ ?_))
      rw [hS, h]; rfl
  · rintro st rfl
    have e : (rs.map fun r => if sure n ev r w = true then 1 else 0).take rs.length = rs.map fun r => if sure n ev r w = true then 1 else 0 := List.take_of_length_le (by rw [List.length_map]; exact Nat.le_refl _)
    rw [e]; exact h
theorem shd_pair (x : Nat) (l : List Nat) : ShD 2 (.tuple [iD x, lotN l]) := shD_tup fun d hd => by
  rcases List.mem_cons.mp hd with rfl | hd
  · exact shD_int _
  · rw [List.mem_singleton.mp hd]; exact shd_lotT l
theorem w_heard {rs : List (Nat → Nat)} {a : Nat → List Nat} (hn : n ≤ 10) (hp : rs.length ≤ 4) (h : rn (rs.map fun r => rowT n (lea fun u => (r u, a u)))) : W_heard (.list (rs.map (rowT n))) (.list ((List.range n).map fun w => lotN (a w))) rn er := by
  unfold W_heard
  refine ⟨by simp, ?_⟩
  show forW _ _ (rs.map (rowT n)) _
  refine for_ok (rowT n) (fun j st => st = (rs.take j).map fun r => rowT n (lea fun u => (r u, a u))) rfl ?_ ?_
  · rintro j r st hr rfl nx bk h1 h2
    have hj := (List.getElem?_eq_some_iff.mp hr).1
    let pr : Nat → PyData := fun w => .tuple [iD (r w), lotN (a w)]
    have hz : zipD (((List.range n).map r).map iD) ((List.range n).map fun w => lotN (a w)) = (List.range n).map pr := by
      unfold zipD
      rw [List.map_map, List.zip_map', List.map_map]; rfl
    show lcMW (zipD (((List.range n).map r).map iD) ((List.range n).map fun w => lotN (a w))) _ _
    rw [hz]
    refine lcM_ok pr pr (by simp; omega) (fun w hw Y hY => ⟨by simp, hY⟩) ?_
    show lcMW ((List.range n).map pr) _ _
    refine lcM_ok pr (fun w => iD (lea (fun u => (r u, a u)) w)) (by simp; omega) (fun w hw Y hY => ?_) ?_
    · have hw := List.mem_range.mp hw
      obtain ⟨a1, a2, a3⟩ := lea_spec (fun u => (r u, a u)) w
      have hev : ∀ u v, PyData.eqv (pr u) (pr v) = decide ((r u, a u) = (r v, a v)) := fun u v => by
        show (((r u : Int) == (r v : Int)) && (PyData.eqv (lotN (a u)) (lotN (a v)) && true)) = _
        rw [eqvT_lots, Bool.and_true, Bool.eq_iff_iff, Bool.and_eq_true, beq_iff_eq, decide_eq_true_eq, decide_eq_true_eq, Prod.mk.injEq, Int.ofNat_inj]
      refine ⟨(shD_list (n := 2) fun d hd => ?_ : ShD 3 (.list ((List.range n).map pr))).sh (by decide), (shd_pair _ _).sh (by decide), lea (fun u => (r u, a u)) w, pr (lea (fun u => (r u, a u)) w), at_rg _ (by omega), by rw [hev]; exact decide_eq_true a1, fun m z' hm hz' => ?_, hY⟩
      · obtain ⟨x, _, rfl⟩ := List.mem_map.mp hd
        exact shd_pair _ _
      · rw [at_rg _ (by omega)] at hz'
        cases hz'
        rw [hev]
        exact decide_eq_false fun e => by have := a3 m e; omega
    · have e : (List.range n).map (fun w => iD (lea (fun u => (r u, a u)) w)) = ((List.range n).map (lea fun u => (r u, a u))).map iD := by rw [List.map_map]; rfl
      rw [e]
      refine ⟨by rw [List.length_map, List.length_take]; omega, h1 _ ?_⟩
      rw [List.take_add_one, hr, List.map_append]; rfl
  · rintro st rfl
    rw [List.take_length]; exact h
/-- the program's sights at a turn -/
abbrev sgD (n : Nat) (ss : List (List Int)) (ev : List Nat) (t : Nat) : PyData := .list (ss.map fun s => rowT n (rk n ss ev t s))
theorem eqv_rowsT (xs ys : List (List Nat)) : PyData.eqv (.list (xs.map lotN)) (.list (ys.map lotN)) = decide (xs = ys) := eqv_each (e := lotN) eqvT_lots xs ys
theorem shd_lots (xs : List (List Nat)) : ShD 2 (.list (xs.map lotN)) := shD_list fun d hd => by
  obtain ⟨l, _, rfl⟩ := List.mem_map.mp hd
  exact shd_lotT l
theorem w_all_rounds (g : GoodS n ss) (hT : Ends86 n ss ev T) (h : rt (.tuple [.list ((List.range (T + 1)).map (rowsD n ss ev)), sgD n ss ev T])) : W_all_rounds (toldD ss) (.list (List.replicate ss.length (lotN ev))) rt er := by
  unfold W_all_rounds
  obtain ⟨s0, h0, hl0⟩ := g.at0
  have n10 := g.n10
  have p4 := g.p4
  have hT9 := hT.le
  show lcMW (ss.map tupR) _ _
  refine lcM_ok tupR (fun s => rowT n (rk n ss ev 0 s)) (by omega) (fun s hs Y hY => w_numbered (.inr rfl) (g.row s hs).1 (by omega) ?_) ⟨by simp, ?_⟩
  · rw [← rk_zero (n := n) (ss := ss) (ev := ev)]; exact hY
  refine ⟨fun st => ∃ t ≤ T, st = ((List.range t).map (rowsD n ss ev), sgD n ss ev t), fun st => T - st.1.length, ⟨0, Nat.zero_le _, rfl⟩, ?_⟩
  rintro st ⟨t, ht, rfl⟩
  refine iteT rfl ?_
  refine ix_ok (n := 0) (d := rowT n (rk n ss ev t s0)) (by rw [List.getElem?_map, h0]; rfl) ?_
  show rngW (.int ((((List.range n).map (rk n ss ev t s0)).map iD).length : Nat)) _
  rw [List.length_map, List.length_map, List.length_range]
  have hrs : (ss.map fun s => rowT n (rk n ss ev t s)) = (ss.map (rk n ss ev t)).map (rowT n) := by rw [List.map_map]; rfl
  have hans : ∀ w, (ss.map (rk n ss ev t)).map (fun r => if sure n ev r w = true then 1 else 0) = ansL n ss ev (pastF n ss ev t) w := fun w => by
    rw [List.map_map]
    refine List.map_congr_left fun s _ => ?_
    show (if sure n ev (rk n ss ev t s) w = true then 1 else 0) = _
    rw [sure_rk]
  have hl : (ss.map (rk n ss ev t)).length = ss.length := List.length_map ..
  refine rng_ok (by omega) (lcM_ok iD (fun w => lotN (ansL n ss ev (pastF n ss ev t) w)) (by simp; omega) (fun w hw Y hY => ?_) ⟨by simp; omega, ?_⟩)
  · show W_answers_at (.list (ss.map fun s => rowT n (rk n ss ev t s))) _ _ _ _
    rw [hrs, ← hl]
    refine w_answers_at n10 (by omega) (List.mem_range.mp hw) ?_
    rw [hans]; exact hY
  · show W_heard (.list (ss.map fun s => rowT n (rk n ss ev t s))) _ _ _
    have key : W_heard (.list ((ss.map (rk n ss ev t)).map (rowT n))) (.list ((List.range n).map fun w => lotN (ansL n ss ev (pastF n ss ev t) w))) (fun l7 => fzW l7 fun finer => eqW finer (sgD n ss ev t) fun t8 => boolW t8 fun b2 => iteW b2 (dispT [(.list ((List.range t).map (rowsD n ss ev) ++ [rowsD n ss ev t])), sgD n ss ev t] fun t9 => rt t9) (letW finer fun sights3 => (∃ t_1 ≤ T, ((List.range t).map (rowsD n ss ev) ++ [rowsD n ss ev t], sights3) = ((List.range t_1).map (rowsD n ss ev), sgD n ss ev t_1)) ∧ T - ((List.range t).map (rowsD n ss ev) ++ [rowsD n ss ev t], sights3).1.length < T - ((List.range t).map (rowsD n ss ev), sgD n ss ev t).1.length)) er := by
      refine w_heard n10 (by omega) ?_
      have hr : (List.range t).map (rowsD n ss ev) ++ [rowsD n ss ev t] = (List.range (t + 1)).map (rowsD n ss ev) := by rw [List.range_succ, List.map_append]; rfl
      have hf : ((ss.map (rk n ss ev t)).map fun r => rowT n (lea fun u => (r u, ansL n ss ev (pastF n ss ev t) u))) = (ss.map fun s => (List.range n).map (rk n ss ev (t + 1) s)).map lotN := by
        rw [List.map_map, List.map_map]
        refine List.map_congr_left fun s _ => ?_
        show rowT n (lea fun u => (rk n ss ev t s u, ansL n ss ev (pastF n ss ev t) u)) = lotN ((List.range n).map (rk n ss ev (t + 1) s))
        rw [← rk_succ]
      have hg : (ss.map fun s => rowT n (rk n ss ev t s)) = (ss.map fun s => (List.range n).map (rk n ss ev t s)).map lotN := by rw [List.map_map]; rfl
      rw [hf, hr]
      show eqW (.list ((ss.map fun s => (List.range n).map (rk n ss ev (t + 1) s)).map lotN)) (.list (ss.map fun s => rowT n (rk n ss ev t s))) _
      rw [hg]
      refine ⟨(shd_lots _).sh (by decide), (shd_lots _).sh (by decide), ?_⟩
      rw [eqv_rowsT]
      by_cases hs : Stop n ss ev t
      · have htT : t = T := by
          rcases Nat.lt_or_ge t T with h | h
          · exact absurd hs (hT.no t h)
          · omega
        subst htT
        rw [decide_eq_true (show (ss.map fun s => (List.range n).map (rk n ss ev (t + 1) s)) = ss.map fun s => (List.range n).map (rk n ss ev t s) from Eq.symm hs)]
        exact ⟨by simp, h⟩
      · have htT : t ≠ T := fun e => hs (e ▸ hT.stop)
        rw [decide_eq_false (show ¬ (ss.map fun s => (List.range n).map (rk n ss ev (t + 1) s)) = ss.map fun s => (List.range n).map (rk n ss ev t s) from fun e => hs (Eq.symm e))]
        refine ⟨⟨t + 1, by omega, ?_⟩, ?_⟩
        · rw [List.map_map]; rfl
        · show T - ((List.range (t + 1)).map (rowsD n ss ev)).length < T - ((List.range t).map (rowsD n ss ev)).length
          rw [List.length_map, List.length_map, List.length_range, List.length_range]; omega
    rw [← hrs] at key
    exact key
/-! asked, parted -/
theorem flat_one (e : PyData) : ∀ m : Nat, (List.replicate m [e]).flatten = List.replicate m e
  | 0 => rfl
  | m + 1 => by rw [List.replicate_succ, List.flatten_cons, flat_one e m]; rfl
def saysL (n : Nat) (ss : List (List Int)) (ev : List Nat) (T : Nat) : List (Nat → List Nat) := (List.range (T + 1)).map fun t => ansL n ss ev (pastF n ss ev t)
theorem w_asked (g : GoodS n ss) (hh : Handed ss d) (he : Lot n ev) (hT : Ends86 n ss ev T) (hw : w < n) (h : rt (.tuple (((saysL n ss ev T).map fun b => b w).map lotN))) : W_asked d (lotN ev) (iD w) rt er := by
  unfold W_asked
  obtain ⟨s0, h0, hl0⟩ := g.at0
  have n10 := g.n10
  have p4 := g.p4
  have hT9 := hT.le
  refine w_check_handed g hh (w_check_event g (fun _ => ?_) fun hb => absurd he.b (by rw [hb]; exact Bool.false_ne_true))
  refine ix_ok (n := 0) (told_at h0) ?_
  show W_check_number _ (.int 0) (.int (((s0.map PyData.int).length : Nat) - 1)) _ _
  rw [List.length_map, hl0]
  refine w_check_number (fun _ => ?_) fun hb => absurd (ftB_nat hw) (by rw [hb]; exact Bool.false_ne_true)
  refine ⟨by simp, ?_⟩
  have hlen : (ss.map tupR).length = ss.length := List.length_map ..
  refine ⟨by omega, by omega, by simp, ?_⟩
  rw [Int.toNat_natCast, flat_one, hlen]
  refine w_all_rounds g hT ?_
  show lcMW ((List.range (T + 1)).map (rowsD n ss ev)) _ _
  refine lcM_ok (rowsD n ss ev) (fun t => lotN (ansL n ss ev (pastF n ss ev t) w)) (by simp; omega) (fun t ht Y hY => ix_ok (at_rg _ hw) hY) ?_
  unfold saysL at h
  rw [List.map_map, List.map_map] at h
  exact h
theorem w_parted (g : GoodS n ss) (hh : Handed ss d) (he : Lot n ev) (hT : Ends86 n ss ev T) (h : rt (.tuple (ss.map fun s => rowT n (rk n ss ev T s)))) : W_parted d (lotN ev) rt er := by
  unfold W_parted
  have p4 := g.p4
  refine w_check_handed g hh (w_check_event g (fun _ => ?_) fun hb => absurd he.b (by rw [hb]; exact Bool.false_ne_true))
  refine ⟨by simp, ?_⟩
  have hlen : (ss.map tupR).length = ss.length := List.length_map ..
  refine ⟨by omega, by omega, by simp, ?_⟩
  rw [Int.toNat_natCast, flat_one, hlen]
  refine w_all_rounds g hT ?_
  exact ix_ok (n := 1) rfl h
/-! the other event -/
def cmp (n : Nat) (ev : List Nat) : List Nat := (List.range n).filter fun u => !decide (u ∈ ev)
theorem sure_cmp {α : Type} [DecidableEq α] {key : Nat → α} : sure n (cmp n ev) key w = sure n ev key w := by
  have hm : ∀ u, u < n → (u ∈ cmp n ev ↔ ¬ u ∈ ev) := fun u hu => by
    unfold cmp
    rw [List.mem_filter, List.mem_range]
    simp [hu]
  unfold sure
  rw [Bool.or_comm]
  congr 1
  · rw [Bool.eq_iff_iff, List.all_eq_true, List.all_eq_true]
    refine forall_congr' fun u => forall_congr' fun hu => ?_
    have := hm u (List.mem_range.mp (List.mem_filter.mp hu).1)
    simp [this]
  · rw [Bool.eq_iff_iff, List.all_eq_true, List.all_eq_true]
    refine forall_congr' fun u => forall_congr' fun hu => ?_
    have := hm u (List.mem_range.mp (List.mem_filter.mp hu).1)
    simp [this]
theorem ansL_cmp {p : Nat → Nat} : ansL n ss (cmp n ev) p = ansL n ss ev p := funext fun w => List.map_congr_left fun s _ => by rw [sure_cmp]
theorem past_cmp : ∀ t, pastF n ss (cmp n ev) t = pastF n ss ev t
  | 0 => rfl
  | t + 1 => by
    show lea (fun w => (pastF n ss (cmp n ev) t w, ansL n ss (cmp n ev) (pastF n ss (cmp n ev) t) w)) = lea (fun w => (pastF n ss ev t w, ansL n ss ev (pastF n ss ev t) w))
    rw [past_cmp t, ansL_cmp]
theorem rk_cmp : rk n ss (cmp n ev) t = rk n ss ev t := funext fun s => by unfold rk; rw [past_cmp]
theorem Ends86.cmp (h : Ends86 n ss ev T) : Ends86 n ss (cmp n ev) T := ⟨h.le, by have := h.stop; unfold Stop at this ⊢; rw [rk_cmp, rk_cmp]; exact this, fun t ht hs => h.no t ht (by unfold Stop at hs ⊢; rw [rk_cmp, rk_cmp] at hs; exact hs)⟩
theorem says_cmp : saysL n ss (cmp n ev) T = saysL n ss ev T := List.map_congr_left fun t _ => by rw [past_cmp, ansL_cmp]
theorem cmp_lot : Lot n (cmp n ev) := lot_filter _ _
theorem w_others (hn : n ≤ 1000) (he : LotD ev e) (h : rt (lotN (cmp n ev))) : W__law_others (iD n) e rt er := by
  unfold W__law_others
  exact rng_ok (by omega) (lc_ok iD iD (fun u => !decide (u ∈ ev)) (by simp; omega) (fun u hu Y N h1 h2 => he.seq (niN_ok (ite_ok h1 h2))) h)
/-! what is parted once is parted for good -/
def fin86 (n : Nat) (ss : List (List Int)) (ev : List Nat) (T : Nat) : List (List Int) := ss.map fun s => rI n (rk n ss ev T s)
theorem fin_good (g : GoodS n ss) : GoodS n (fin86 n ss ev T) := ⟨by unfold fin86; rw [List.length_map]; exact g.p1, by unfold fin86; rw [List.length_map]; exact g.p4, g.n1, g.n10, fun t ht => by
  obtain ⟨s, _, rfl⟩ := List.mem_map.mp ht
  refine ⟨rI_len, fun x hx => ?_⟩
  obtain ⟨u, _, rfl⟩ := List.mem_map.mp hx
  omega⟩
theorem fin_handed : Handed (fin86 n ss ev T) (.tuple (ss.map fun s => rowT n (rk n ss ev T s))) := ⟨(fin86 n ss ev T).map fun s => (s, true), by rw [List.map_map]; exact List.map_id _, .inr (by
  unfold fin86
  rw [List.map_map, List.map_map]
  congr 1
  refine List.map_congr_left fun s _ => ?_
  exact (rI_tup _).symm)⟩
theorem fin_ans (hw : w < n) : ansL n (fin86 n ss ev T) ev (pastF n (fin86 n ss ev T) ev 0) w = ansL n ss ev (pastF n ss ev T) w := by
  unfold ansL fin86
  rw [List.map_map]
  refine List.map_congr_left fun s _ => ?_
  show (if sure n ev (fun u => ((rI n (rk n ss ev T s)).getD u 0, 0)) w = true then 1 else 0) = _
  have : sure n ev (fun u => ((rI n (rk n ss ev T s)).getD u 0, (0 : Nat))) w = sure n ev (fun u => (s.getD u 0, pastF n ss ev T u)) w := sure_lt fun u hu => by
    rw [Prod.mk.injEq, rI_at hu, rI_at hw, Int.ofNat_inj, rk_iff, Prod.mk.injEq]
    exact ⟨fun h => h.1, fun h => ⟨h, rfl⟩⟩
  rw [this]
theorem fin_rk (hw : w < n) : rk n (fin86 n ss ev T) ev 0 (rI n (rk n ss ev T s)) w = rk n ss ev T s w := by
  rw [rk_zero]
  unfold rk
  refine lea_lt (fun u hu => ?_) hw
  rw [rI_at hu, rI_at hw, Int.ofNat_inj]
  show lea _ u = lea _ w ↔ _
  rw [lea_iff]
theorem fin_ends (hT : Ends86 n ss ev T) : Ends86 n (fin86 n ss ev T) ev 0 := ⟨by omega, by
  have hst : ∀ s ∈ ss, ∀ w, w < n → rk n ss ev T s w = rk n ss ev (T + 1) s w := fun s hs w hw => by
    obtain ⟨j, hj⟩ := List.getElem?_of_mem hs
    have h1 := congrArg (fun l : List (List Nat) => l[j]?) hT.stop
    simp only [List.getElem?_map, hj, Option.map_some, Option.some.injEq] at h1
    have h2 := congrArg (fun l : List Nat => l[w]?) h1
    simp only [at_rg _ hw, Option.some.injEq] at h2
    exact h2
  unfold Stop fin86
  rw [List.map_map, List.map_map]
  refine List.map_congr_left fun s hs => List.map_congr_left fun w hw => ?_
  have hw := List.mem_range.mp hw
  show lea _ w = lea _ w
  refine lea_lt (fun u hu => ?_) hw
  rw [Prod.mk.injEq, Prod.mk.injEq]
  refine and_congr_right fun he => ?_
  rw [rI_at hu, rI_at hw, Int.ofNat_inj] at he
  have h1 : rk n ss ev (T + 1) s u = rk n ss ev (T + 1) s w := by rw [← hst s hs u hu, ← hst s hs w hw]; exact he
  have h2 := (past_iff.mp (rk_iff.mp h1).2).2
  have h3 := fin_ans (n := n) (ss := ss) (ev := ev) (T := T) hu
  have h4 := fin_ans (n := n) (ss := ss) (ev := ev) (T := T) hw
  show pastF n (fin86 n ss ev T) ev 0 u = pastF n (fin86 n ss ev T) ev 0 w ↔ pastF n (fin86 n ss ev T) ev 1 u = pastF n (fin86 n ss ev T) ev 1 w
  rw [past_iff]
  refine ⟨fun h => ⟨h, by rw [h3, h4, h2]⟩, fun h => h.1⟩, fun t ht => absurd ht (Nat.not_lt_zero _)⟩
/-! compared -/
theorem w_are_rounds {bs : List (Nat → List Nat)} (hz : bs.length ≤ 1000) (hl : ∀ b ∈ bs, (b w).length ≤ 1000) (hw : w < n) (h : rt (.bool true)) :
    W__law_are_rounds (.tuple ((bs.map fun b => b w).map lotN)) (.list (bs.map fun b => .list ((List.range n).map fun v => lotN (b v)))) (iD w) rt er := by
  unfold W__law_are_rounds
  refine or_ok false (fun k h => h) (fun _ => ?_) (fun z => nomatch z)
  show neW (.int (((bs.map fun b => b w).map lotN).length : Nat)) (.int ((bs.map fun b => PyData.list ((List.range n).map fun v => lotN (b v))).length : Nat)) _
  rw [List.length_map, List.length_map, List.length_map]
  refine neN_ok ?_
  rw [decide_eq_true rfl]
  refine iteF rfl ?_
  show rngW (.int ((bs.map fun b => PyData.list ((List.range n).map fun v => lotN (b v))).length : Nat)) _
  rw [List.length_map]
  refine rng_ok (by omega) (lc_ok iD iD (fun _ => false) (by simp; omega) (fun j hj Y N h1 h2 => ?_) ⟨by simp, ?_⟩)
  · obtain ⟨b, hb⟩ : ∃ b, bs[j]? = some b := ⟨_, List.getElem?_eq_getElem (List.mem_range.mp hj)⟩
    refine ix_ok (d := lotN (b w)) (by rw [List.getElem?_map, List.getElem?_map, hb]; rfl) (ix_ok (d := .list ((List.range n).map fun v => lotN (b v))) (by rw [List.getElem?_map, hb]; rfl) (ix_ok (at_rg _ hw) ?_))
    exact w_is_due (ev := b w) (.inl rfl) (by have := hl b (List.mem_of_getElem? hb); omega) (h2 rfl)
  · refine eqNil_ok ?_
    have : ((List.range bs.length).filter fun _ => false) = [] := List.filter_eq_nil_iff.mpr fun _ _ => Bool.false_ne_true
    rw [this]; exact h
theorem w_are_sights {ls : List (List Nat)} (hz : ls.length ≤ 1000) (hl : ∀ l ∈ ls, l.length ≤ 1000) (h : rt (.bool true)) : W__law_are_sights (.tuple (ls.map lotN)) (.list (ls.map lstN)) rt er := by
  unfold W__law_are_sights
  refine or_ok false (fun k h => h) (fun _ => ?_) (fun z => nomatch z)
  show neW (.int ((ls.map lotN).length : Nat)) (.int ((ls.map lstN).length : Nat)) _
  rw [List.length_map, List.length_map]
  refine neN_ok ?_
  rw [decide_eq_true rfl]
  refine iteF rfl ?_
  show rngW (.int ((ls.map lstN).length : Nat)) _
  rw [List.length_map]
  refine rng_ok (by omega) (lc_ok iD iD (fun _ => false) (by simp; omega) (fun j hj Y N h1 h2 => ?_) ⟨by simp, ?_⟩)
  · obtain ⟨l, hl'⟩ : ∃ l, ls[j]? = some l := ⟨_, List.getElem?_eq_getElem (List.mem_range.mp hj)⟩
    exact ix_ok (d := lotN l) (by rw [List.getElem?_map, hl']; rfl) (ix_ok (d := lstN l) (by rw [List.getElem?_map, hl']; rfl) (w_is_due (ev := l) (.inr rfl) (by have := hl l (List.mem_of_getElem? hl'); omega) (h2 rfl)))
  · refine eqNil_ok ?_
    have : ((List.range ls.length).filter fun _ => false) = [] := List.filter_eq_nil_iff.mpr fun _ _ => Bool.false_ne_true
    rw [this]; exact h
theorem rows_says : (List.range (T + 1)).map (rowsD n ss ev) = (saysL n ss ev T).map fun b => .list ((List.range n).map fun v => lotN (b v)) := by unfold saysL; rw [List.map_map]; rfl
theorem says_ok (g : GoodS n ss) (hT : Ends86 n ss ev T) : (saysL n ss ev T).length ≤ 1000 ∧ ∀ b ∈ saysL n ss ev T, (b w).length ≤ 1000 := ⟨by have := hT.le; unfold saysL; rw [List.length_map, List.length_range]; omega, fun b hb => by
  obtain ⟨t, _, rfl⟩ := List.mem_map.mp hb
  rw [ansL_len]; have := g.p4; omega⟩
theorem last_at {xs : List PyData} {x : PyData} {m : Nat} (hl : xs.length = m + 1) (h : xs[m]? = some x) : atI xs (-1) = some x := by
  unfold atI ixN
  rw [if_neg (by decide), if_pos (by omega), hl]
  show xs[(((-1 : Int) + ((m + 1 : Nat) : Int)).toNat)]? = some x
  rw [show ((-1 : Int) + ((m + 1 : Nat) : Int)).toNat = m by omega]; exact h
theorem w_tells {u : Nat} (g : GoodS n ss) (hh : Handed ss d) (he : Lot n ev) (hw : w < n) (hu : u < n) (h : rt (.bool true)) : W__law_tells d (.list (ss.map lstR)) (lotN ev) (iD w) (iD u) rt er := by
  unfold W__law_tells
  obtain ⟨s0, h0, hl0⟩ := g.at0
  have n1 := g.n1
  have n10 := g.n10
  have p4 := g.p4
  obtain ⟨T, hT9, hst, hno⟩ := stop_soon (n := n) (ss := ss) (ev := ev) n10 n1
  have hT : Ends86 n ss ev T := ⟨hT9, hst, hno⟩
  have sy := fun w => says_ok (w := w) g hT
  refine w_rounds g (.inl rfl) hT ?_
  rw [rows_says]
  refine ix_ok (n := 0) (rows_at h0) ?_
  show W__law_others (.int ((s0.map PyData.int).length : Nat)) _ _ _
  rw [List.length_map, hl0]
  refine w_others (by omega) (.inl rfl) ?_
  refine w_asked g hh he hT hw (ix_ok (n := 0) rfl (w_are_rounds (sy w).1 (sy w).2 hw (iteF rfl ?_)))
  refine w_asked g hh cmp_lot hT.cmp hu ?_
  rw [says_cmp]
  refine ix_ok (n := 0) rfl (w_are_rounds (sy u).1 (sy u).2 hu (iteF rfl ?_))
  refine w_asked g hh he hT hu (ix_ok (n := 0) rfl (w_are_rounds (sy u).1 (sy u).2 hu (iteF rfl ?_)))
  show lcMW (ss.map lstR) _ _
  refine lcM_ok lstR (fun s => lstN ((List.range n).map (rk n ss ev (T + 1) s))) (by omega) (fun s hs Y hY => ix_ok (n := 1) (d := pastD n ss ev (T + 1)) rfl (w_leastP (t := T + 1) (g.row s hs).1 (by omega) ?_)) ?_
  · show Y (.list (ofN n (rk n ss ev (T + 1) s)))
    have e : ofN n (rk n ss ev (T + 1) s) = ((List.range n).map (rk n ss ev (T + 1) s)).map iD := by unfold ofN; rw [List.map_map]; rfl
    rw [e]; exact hY
  have hdue : (ss.map fun s => lstN ((List.range n).map (rk n ss ev (T + 1) s))) = (ss.map fun s => (List.range n).map (rk n ss ev T s)).map lstN := by
    rw [show (ss.map fun s => (List.range n).map (rk n ss ev T s)) = ss.map fun s => (List.range n).map (rk n ss ev (T + 1) s) from hst, List.map_map]; rfl
  rw [hdue]
  have hfin : (ss.map fun s => rowT n (rk n ss ev T s)) = (ss.map fun s => (List.range n).map (rk n ss ev T s)).map lotN := by rw [List.map_map]; rfl
  have hsz : (ss.map fun s => (List.range n).map (rk n ss ev T s)).length ≤ 1000 := by rw [List.length_map]; omega
  have hsl : ∀ l ∈ (ss.map fun s => (List.range n).map (rk n ss ev T s)), l.length ≤ 1000 := fun l hl => by
    obtain ⟨s, _, rfl⟩ := List.mem_map.mp hl
    rw [List.length_map, List.length_range]; omega
  refine w_parted g hh he hT ?_
  have hcmp : ∀ k : PyData → Prop, k (.bool true) → W__law_are_sights (.tuple (ss.map fun s => rowT n (rk n ss ev T s))) (.list ((ss.map fun s => (List.range n).map (rk n ss ev T s)).map lstN)) k er := fun k hk => by
    rw [hfin]; exact w_are_sights hsz hsl hk
  refine hcmp _ (iteF rfl ?_)
  refine w_asked (fin_good g) fin_handed he (fin_ends hT) hw ?_
  refine ix_ok (n := 0) rfl ⟨rowsD n ss ev T, last_at (m := T) (by unfold saysL; rw [List.length_map, List.length_map, List.length_range]) (by
    unfold saysL
    rw [List.map_map, at_rg _ (by omega)]; rfl), by simp, ?_⟩
  have hv : ((saysL n (fin86 n ss ev T) ev 0).map fun b => b w) = ([ansL n ss ev (pastF n ss ev T)].map fun b => b w) := by
    show [ansL n (fin86 n ss ev T) ev (pastF n (fin86 n ss ev T) ev 0) w] = [ansL n ss ev (pastF n ss ev T) w]
    rw [fin_ans hw]
  rw [hv]
  refine w_are_rounds (bs := [ansL n ss ev (pastF n ss ev T)]) (by simp) (fun b hb => by rw [List.mem_singleton.mp hb, ansL_len]; omega) hw (iteF rfl ?_)
  refine w_parted (fin_good g) fin_handed cmp_lot (fin_ends hT).cmp ?_
  have hsame : ((fin86 n ss ev T).map fun r => rowT n (rk n (fin86 n ss ev T) (cmp n ev) 0 r)) = ss.map fun s => rowT n (rk n ss ev T s) := by
    show List.map _ (List.map _ ss) = _
    rw [List.map_map]
    refine List.map_congr_left fun s _ => ?_
    show lotN _ = lotN _
    refine congrArg lotN (List.map_congr_left fun v hv => ?_)
    rw [rk_cmp]
    exact fin_rk (List.mem_range.mp hv)
  rw [hsame]
  refine hcmp _ (iteF rfl ?_)
  exact w_plain (by omega) hh (eqSelf_ok (shd_rows ss) (by decide) h)
/-! refusals -/
theorem ref_sights (hd : BadSt d) {q : Nat} (h : rt (iD 1)) : W__law_refusal (iD q) d e v rt er := by
  unfold W__law_refusal
  have fin : ∀ Hf2 : Prop, catchW xn "BadWorlds" "BadWorlds" ((none : Option (List (Str × V))) = none ∧ (orW (fun k3 => isXW xn "BadWorlds" "BadNumber" fun t4 => boolW t4 fun b2 => k3 b2) (fun k4 => orW (fun k1 => isXW xn "BadWorlds" "NotThere" fun t5 => boolW t5 fun b3 => k1 b3) (fun k2 => isXW xn "BadWorlds" "BadRow" fun t6 => boolW t6 fun b4 => k2 b4) fun b5 => k4 b5) fun b6 => iteW b6 (rt (.int 2)) (andW (fun k5 => isXW xn "BadWorlds" "JointError" fun t7 => boolW t7 fun b7 => k5 b7) (fun k6 => isVW xn "BadWorlds" fun t8 => boolW t8 fun b8 => k6 b8) fun b9 => iteW b9 (rt (.int 1)) (rt (.int 2))))) Hf2 := fun Hf2 => by
    refine catch_ok (by decide +kernel) (by decide +kernel) ⟨rfl, ?_⟩
    refine or_ok false (fun k h => isX_ok (b := false) (by decide +kernel) (by decide +kernel) h) (fun _ => ?_) (fun z => nomatch z)
    refine or_ok false (fun k h => isX_ok (b := false) (by decide +kernel) (by decide +kernel) h) (fun _ => ?_) (fun z => nomatch z)
    refine isX_ok (b := false) (by decide +kernel) (by decide +kernel) (iteF rfl ?_)
    refine and_ok true (fun k h => isX_ok (b := true) (by decide +kernel) (by decide +kernel) h) (fun _ => isV_ok (by decide +kernel) (iteT rfl h)) (fun z => nomatch z)
  refine eqI_ok (ite_ok (fun _ => ?_) fun _ => ?_)
  · unfold W_asked; exact w_check_bad hd (fin _)
  · unfold W_parted; exact w_check_bad hd (fin _)
theorem ref_event (g : GoodS n ss) (hh : Handed ss d) (he : lotB e n = false) {q : Nat} (h : rt (iD 1)) : W__law_refusal (iD q) d e v rt er := by
  unfold W__law_refusal
  have fin : ∀ Hf2 : Prop, catchW xn "BadWorlds" "BadWorlds" ((none : Option (List (Str × V))) = none ∧ (orW (fun k3 => isXW xn "BadWorlds" "BadNumber" fun t4 => boolW t4 fun b2 => k3 b2) (fun k4 => orW (fun k1 => isXW xn "BadWorlds" "NotThere" fun t5 => boolW t5 fun b3 => k1 b3) (fun k2 => isXW xn "BadWorlds" "BadRow" fun t6 => boolW t6 fun b4 => k2 b4) fun b5 => k4 b5) fun b6 => iteW b6 (rt (.int 2)) (andW (fun k5 => isXW xn "BadWorlds" "JointError" fun t7 => boolW t7 fun b7 => k5 b7) (fun k6 => isVW xn "BadWorlds" fun t8 => boolW t8 fun b8 => k6 b8) fun b9 => iteW b9 (rt (.int 1)) (rt (.int 2))))) Hf2 := fun Hf2 => by
    refine catch_ok (by decide +kernel) (by decide +kernel) ⟨rfl, ?_⟩
    refine or_ok false (fun k h => isX_ok (b := false) (by decide +kernel) (by decide +kernel) h) (fun _ => ?_) (fun z => nomatch z)
    refine or_ok false (fun k h => isX_ok (b := false) (by decide +kernel) (by decide +kernel) h) (fun _ => ?_) (fun z => nomatch z)
    refine isX_ok (b := false) (by decide +kernel) (by decide +kernel) (iteF rfl ?_)
    refine and_ok true (fun k h => isX_ok (b := true) (by decide +kernel) (by decide +kernel) h) (fun _ => isV_ok (by decide +kernel) (iteT rfl h)) (fun z => nomatch z)
  refine eqI_ok (ite_ok (fun _ => ?_) fun _ => ?_)
  · unfold W_asked; exact w_check_handed g hh (w_check_event g (fun e2 => by rw [he] at e2; cases e2) fun _ => fin _)
  · unfold W_parted; exact w_check_handed g hh (w_check_event g (fun e2 => by rw [he] at e2; cases e2) fun _ => fin _)
theorem w_refuses (g : GoodS n ss) (h : rt (.bool true)) : W__law_refuses (.list (ss.map lstR)) e v rt er := by
  unfold W__law_refuses
  obtain ⟨s0, h0, hl0⟩ := g.at0
  have n1 := g.n1
  have n10 := g.n10
  have p4 := g.p4
  refine w_draw (m := 2) (by decide) (by decide) fun r hr => ?_
  refine w_bad_sights g fun b hb => ref_sights hb (neI_ok (iteF rfl ?_))
  refine w_bad_sights g fun b2 hb2 => ?_
  show W__law_refusal (.int (1 - (r : Int))) b2 e v _ _
  rw [show (1 - (r : Int)) = ((1 - r : Nat) : Int) by omega]
  refine ref_sights hb2 (neI_ok (iteF rfl ?_))
  refine rng_ok (n := 2) (by decide) (for_const iD (fun k hk nx bk h1 h2 => ?_) h)
  refine ix_ok (n := 0) (rows_at h0) ?_
  show W__law_bad_event (.int ((s0.map PyData.int).length : Nat)) _ _
  rw [List.length_map, hl0]
  exact w_bad_event n1 n10 fun b hb => w_handed (by omega) fun d hh => ref_event g hh hb (neI_ok (iteF rfl h1))
theorem join2_ok {f : (PyData → PyData → Prop) → Prop} {k : PyData → PyData → Prop} (P : PyData → PyData → Prop) (hf : ∀ k', (∀ a b, P a b → k' a b) → f k') (hk : ∀ a b, P a b → k a b) : joinW f k := hf k hk
theorem join1_ok {f : (PyData → Prop) → Prop} {k : PyData → Prop} (P : PyData → Prop) (hf : ∀ k', (∀ a, P a → k' a) → f k') (hk : ∀ a, P a → k a) : joinW f k := hf k hk
theorem noLs_ints (s : List Int) : noLists (s.map PyData.int) = true := by
  induction s with
  | nil => rfl
  | cons x s ih => exact ih
theorem w_ladder {m q : Nat} (h1 : 1 ≤ m) (hm : m ≤ 10) (hq : q ≤ 4) (h : ∀ ss : List (List Int), ss.length = q → (∀ s ∈ ss, s.length = m ∧ ∀ x ∈ s, 0 ≤ x) → ∀ ev, Lot m ev → rt (.tuple [.list (ss.map lstR), lotN ev])) : W__law_ladder (iD m) (iD q) rt er := by
  unfold W__law_ladder
  refine w_order (by omega) fun ps hps => w_draw (m := 2) (by decide) (by decide) fun joined hj => w_draw (m := 2) (by decide) (by decide) fun turn hturn => ⟨by simp, ?_⟩
  have hpl : ps.length = m := by rw [hps.length_eq, List.length_range]
  have hpat : ∀ i < m, ∃ x, ps[i]? = some x ∧ x < m := fun i hi => by
    obtain ⟨x, hx⟩ : ∃ x, ps[i]? = some x := ⟨_, List.getElem?_eq_getElem (by omega)⟩
    exact ⟨x, hx, List.mem_range.mp (hps.mem_iff.mp (List.mem_of_getElem? hx))⟩
  refine rng_ok (by omega) (for_ok iD (fun i st => ∃ ss : List (List Int), st = ss.map lstR ∧ ss.length = i ∧ ∀ s ∈ ss, s.length = m ∧ ∀ x ∈ s, 0 ≤ x) ⟨[], rfl, rfl, fun s hs => absurd hs List.not_mem_nil⟩ ?_ ?_)
  · rintro i x st hx ⟨ss, rfl, hsl, hss⟩ nx bk hn hb
    have hi : i < q := by simpa using (List.getElem?_eq_some_iff.mp hx).1
    rw [List.getElem?_range hi] at hx
    cases hx
    refine rng_ok (n := m) (by omega) (lcM_ok iD (fun _ => .int 0) (by simp; omega) (fun x hx Y hY => hY) ?_)
    refine join1_ok (P := fun a => ∃ b : Nat, a = iD b) (fun k hk => ?_) ?_
    · exact ite_ok (fun _ => w_draw (m := 2) (by decide) (by decide) fun b _ => hk _ ⟨b, rfl⟩) fun _ => hk _ ⟨0, rfl⟩
    rintro _ ⟨b, rfl⟩
    refine rng_ok (n := m) (by omega) (for_ok iD (fun i st => ∃ s : List Int, st = s.map .int ∧ s.length = m ∧ ∀ x ∈ s, 0 ≤ x ∧ x ≤ 40) ⟨List.replicate m 0, by rw [List.map_replicate]; rw [List.map_const', List.length_range], List.length_replicate, fun x hx => by rw [(List.mem_replicate.mp hx).2]; omega⟩ ?_ ?_)
    · rintro a x st hx ⟨s, rfl, hs, hb⟩ nx' bk' h3 h4
      have ha : a < m := by simpa using (List.getElem?_eq_some_iff.mp hx).1
      rw [List.getElem?_range ha] at hx
      cases hx
      obtain ⟨y, hy, hym⟩ := hpat a ha
      refine join1_ok (P := fun c => ∃ z : Int, c = .int z ∧ 0 ≤ z ∧ z ≤ 10) (fun k hk => ?_) ?_
      · have h0 : k (iD a) := hk _ ⟨(a : Int), rfl, by omega, by omega⟩
        refine and_ok (decide ((joined : Int) = 1)) (fun k h => eqI_ok h) (fun _ => ?_) fun hb => iteF rfl h0
        refine and_ok (decide ((a : Int) = (m : Int) - 1)) (fun k h => eqI_ok h) (fun _ => ?_) fun hb => iteF rfl h0
        refine ite_ok (fun hp => ?_) fun _ => h0
        have hp := of_decide_eq_true hp
        exact hk _ ⟨(a : Int) - 1, rfl, by omega, by omega⟩
      rintro _ ⟨z, rfl, hz0, hz1⟩
      refine eqI_ok (i := (b : Int)) (j := 0) (ite_ok (fun _ => ?_) fun _ => h3 _ ⟨s, rfl, hs, hb⟩)
      refine ⟨⟨by decide, by decide⟩, ix_ok (n := a) (d := iD y) (by rw [List.getElem?_map, hy]; rfl) (set_ok (by rw [List.length_map]; omega) (h3 _ ⟨s.set y ((z + (i : Int) + (turn : Int)) / 2), by rw [List.map_set], by rw [List.length_set]; exact hs, fun x hx => ?_⟩))⟩
      rcases List.mem_or_eq_of_mem_set hx with h | rfl
      · exact hb x h
      · omega
    · rintro st ⟨s, rfl, hs, hb⟩
      refine w_named (by omega) hb fun s' hs' hp' => ⟨noLs_ints s', by rw [List.length_map]; omega, hn _ ⟨ss ++ [s'], by rw [List.map_append]; rfl, by rw [List.length_append, hsl]; rfl, fun t ht => ?_⟩⟩
      rcases List.mem_append.mp ht with ht | ht
      · exact hss t ht
      · rw [List.mem_singleton.mp ht]; exact ⟨hs'.trans hs, hp'⟩
  · rintro st ⟨ss, rfl, hsl, hss⟩
    rw [List.length_range] at hsl
    have hnd : ps.Nodup := hps.nodup_iff.mpr List.nodup_range
    refine rng_ok (n := m) (by omega) (lc_ok iD (fun a => iD (ps.getD a 0)) (fun a => decide (a % 2 = 1)) (by simp; omega) (fun a ha Y N h3 h4 => ?_) ?_)
    · have ha := List.mem_range.mp ha
      obtain ⟨y, hy, hym⟩ := hpat a ha
      have hg : ps.getD a 0 = y := by rw [List.getD_eq_getElem?_getD, hy]; rfl
      refine ⟨(by decide : (0 : Int) < 2), eqI_ok ?_⟩
      rw [show decide ((a : Int) % 2 = 1) = decide (a % 2 = 1) from decide_eq_decide.mpr (by omega)]
      exact ite_ok (fun hb => ix_ok (n := a) (d := iD y) (by rw [List.getElem?_map, hy]; rfl) (by rw [← hg]; exact h3 hb)) h4
    · have hX : ((List.range m).filter fun a => decide (a % 2 = 1)).map (fun a => iD (ps.getD a 0)) = (((List.range m).filter fun a => decide (a % 2 = 1)).map fun a => ps.getD a 0).map iD := by rw [List.map_map]; rfl
      rw [hX]
      generalize hXX : ((List.range m).filter fun a => decide (a % 2 = 1)).map (fun a => ps.getD a 0) = X
      have hXm : ∀ v ∈ X, v < m := fun v hv => by
        rw [← hXX] at hv
        obtain ⟨a, ha, rfl⟩ := List.mem_map.mp hv
        obtain ⟨y, hy, hym⟩ := hpat a (List.mem_range.mp (List.mem_filter.mp ha).1)
        rw [List.getD_eq_getElem?_getD, hy]; exact hym
      have hXn : X.Nodup := by
        rw [← hXX]
        refine List.pairwise_map.mpr (((pw_range m).filter fun a => decide (a % 2 = 1)).imp_of_mem fun {a c} ha hc hac => ?_)
        have ha := List.mem_range.mp (List.mem_filter.mp ha).1
        have hc := List.mem_range.mp (List.mem_filter.mp hc).1
        have := List.pairwise_iff_getElem.mp hnd a c (by omega) (by omega) hac
        rw [List.getD_eq_getElem?_getD, List.getD_eq_getElem?_getD, List.getElem?_eq_getElem (by omega), List.getElem?_eq_getElem (by omega)]
        exact this
      refine sort_ok (ys := (List.range m).filter fun v => decide (v ∈ X)) hXn ((pw_range m).filter _) (fun v => ?_) ⟨by simp, h ss hsl hss _ (lot_filter m _)⟩
      rw [List.mem_filter, List.mem_range, decide_eq_true_eq]
      exact ⟨fun hv => ⟨hXm v hv, hv⟩, fun hv => hv.2⟩
end
theorem law86 : W_law (fun d => d = .bool true) noX := by
  unfold W_law
  refine w_draw (m := 10) (by decide) (by decide) fun r hr => ?_
  show W__law_draw (.int 4) _ _
  refine w_draw (m := 4) (by decide) (by decide) fun q hq => ?_
  show W__law_event (.int (1 + (r : Int))) _ _
  rw [show (1 + (r : Int)) = ((1 + r : Nat) : Int) by omega, show (1 + (q : Int)) = ((1 + q : Nat) : Int) by omega]
  generalize hn : 1 + r = n
  generalize hpp : 1 + q = people
  refine w_event (by omega) fun ev hev => w_sights (by omega) (by omega) (by omega) fun ss hsl hss => ?_
  refine join2_ok (P := fun a b => ∃ (ss : List (List Int)) (ev : List Nat), a = .list (ss.map lstR) ∧ b = lotN ev ∧ ss.length = people ∧ (∀ s ∈ ss, s.length = n ∧ ∀ x ∈ s, 0 ≤ x) ∧ Lot n ev) (fun k hk => ?_) ?_
  · refine w_draw (m := 4) (by decide) (by decide) fun way hway => eqI_ok (ite_ok (fun _ => ?_) fun _ => hk _ _ ⟨ss, ev, rfl, rfl, hsl, hss, hev⟩)
    refine w_ladder (by omega) (by omega) (by omega) fun ss2 h2 h3 ev2 h4 => ?_
    exact ix_ok (n := 0) rfl (ix_ok (n := 1) rfl (hk _ _ ⟨ss2, ev2, rfl, rfl, h2, h3, h4⟩))
  rintro _ _ ⟨ss, ev, rfl, rfl, hsl, hss, hev⟩
  have g : GoodS n ss := good_of (by omega) (by omega) (by omega) (by omega) hsl hss
  refine w_draw (by omega) (by omega) fun world hw => w_draw (by omega) (by omega) fun other ho => ?_
  refine w_handed (by omega) fun d0 hd0 => hd0.seq fun rs hrs => ?_
  have hh : Handed ss (.list (rs.map encR)) := ⟨rs, hrs, .inl rfl⟩
  refine w_tells g hh hev hw ho ⟨rfl, iteF rfl ?_⟩
  refine w_refuses g (iteF rfl ?_)
  refine lcM_ok lstR lstR (by omega) (fun s hs Y hY => hY) ?_
  refine w_draw (by omega) (by omega) fun person hp => ?_
  have hpl : person < ss.length := by omega
  refine w_sights (m := n) (p := 1) (by omega) (by omega) (by omega) fun ns hnl hns => ?_
  obtain ⟨s1, rfl⟩ : ∃ s1, ns = [s1] := List.length_eq_one_iff.mp hnl
  refine ix_ok (n := 0) (d := lstR s1) rfl (set_ok (by rw [List.length_map]; exact hpl) ?_)
  have hs1 := hns s1 List.mem_cons_self
  refine ix_ok (n := person) (d := lstR s1) (by rw [List.getElem?_set_self (by rw [List.length_map]; exact hpl)]) ?_
  have hrl : rs.length = ss.length := by rw [← hrs, List.length_map]
  refine set_ok (by rw [List.length_map, hrl]; exact hpl) ?_
  have hh2 : Handed (ss.set person s1) (.list ((rs.map encR).set person (tupR s1))) := ⟨rs.set person (s1, true), by rw [List.map_set, hrs], .inl (by rw [List.map_set]; rfl)⟩
  rw [set_rows lstR]
  exact w_tells (g.set hs1) hh2 hev ho hw rfl
end Eh

namespace Eh
open PySem PySem.Spec PyProof.Rows L2
def topS (i : Nat) : Stmt := PySem.Challenge.pw_everyhands_k86_whole_rounds_of_answers.main.body.getD i (.Pass ⟨0, 0, 0, 0⟩)
abbrev s_is_integer : Stmt := topS 7
theorem sc_is_integer : FnScope N_is_integer ["value"] (defScope s_is_integer) := ⟨rfl, rfl, rfl, by decide +kernel, rfl, by decide +kernel, by decide +kernel⟩
abbrev s_is_listed : Stmt := topS 8
theorem sc_is_listed : FnScope N_is_listed ["values"] (defScope s_is_listed) := ⟨rfl, rfl, rfl, by decide +kernel, rfl, by decide +kernel, by decide +kernel⟩
abbrev s_is_from_to : Stmt := topS 10
theorem sc_is_from_to : FnScope N_is_from_to ["value", "least", "most"] (defScope s_is_from_to) := ⟨rfl, rfl, rfl, by decide +kernel, rfl, by decide +kernel, by decide +kernel⟩
abbrev s_check_number : Stmt := topS 11
theorem sc_check_number : FnScope N_check_number ["value", "least", "most"] (defScope s_check_number) := ⟨rfl, rfl, rfl, by decide +kernel, rfl, by decide +kernel, by decide +kernel⟩
abbrev s_is_lot : Stmt := topS 12
theorem sc_is_lot : FnScope N_is_lot ["value", "many"] (defScope s_is_lot) := ⟨rfl, rfl, rfl, by decide +kernel, rfl, by decide +kernel, by decide +kernel⟩
abbrev s_check_sights : Stmt := topS 16
theorem sc_check_sights : FnScope N_check_sights ["sights"] (defScope s_check_sights) := ⟨rfl, rfl, rfl, by decide +kernel, rfl, by decide +kernel, by decide +kernel⟩
abbrev s_check_event : Stmt := topS 17
theorem sc_check_event : FnScope N_check_event ["sights", "event"] (defScope s_check_event) := ⟨rfl, rfl, rfl, by decide +kernel, rfl, by decide +kernel, by decide +kernel⟩
abbrev s_possible : Stmt := topS 18
theorem sc_possible : FnScope N_possible ["sight", "world"] (defScope s_possible) := ⟨rfl, rfl, rfl, by decide +kernel, rfl, by decide +kernel, by decide +kernel⟩
abbrev s_known_at : Stmt := topS 19
theorem sc_known_at : FnScope N_known_at ["sight", "event"] (defScope s_known_at) := ⟨rfl, rfl, rfl, by decide +kernel, rfl, by decide +kernel, by decide +kernel⟩
abbrev s_numbered : Stmt := topS 21
theorem sc_numbered : FnScope N_numbered ["sight"] (defScope s_numbered) := ⟨rfl, rfl, rfl, by decide +kernel, rfl, by decide +kernel, by decide +kernel⟩
abbrev s_answers_at : Stmt := topS 22
theorem sc_answers_at : FnScope N_answers_at ["sights", "events", "world"] (defScope s_answers_at) := ⟨rfl, rfl, rfl, by decide +kernel, rfl, by decide +kernel, by decide +kernel⟩
abbrev s_heard : Stmt := topS 23
theorem sc_heard : FnScope N_heard ["sights", "rows"] (defScope s_heard) := ⟨rfl, rfl, rfl, by decide +kernel, rfl, by decide +kernel, by decide +kernel⟩
abbrev s_all_rounds : Stmt := topS 24
theorem sc_all_rounds : FnScope N_all_rounds ["sights", "events"] (defScope s_all_rounds) := ⟨rfl, rfl, rfl, by decide +kernel, rfl, by decide +kernel, by decide +kernel⟩
abbrev s_asked : Stmt := topS 25
theorem sc_asked : FnScope N_asked ["sights", "event", "world"] (defScope s_asked) := ⟨rfl, rfl, rfl, by decide +kernel, rfl, by decide +kernel, by decide +kernel⟩
abbrev s_parted : Stmt := topS 26
theorem sc_parted : FnScope N_parted ["sights", "event"] (defScope s_parted) := ⟨rfl, rfl, rfl, by decide +kernel, rfl, by decide +kernel, by decide +kernel⟩
abbrev s__law_state : Stmt := topS 28
abbrev N__law_state : List Str := ["script", "seed", "great", "k", "cell"]
theorem sc__law_state : FnScope N__law_state ["script"] (defScope s__law_state) := ⟨rfl, rfl, rfl, by decide +kernel, rfl, by decide +kernel, by decide +kernel⟩
abbrev s__law_draw : Stmt := topS 29
abbrev N__law_draw : List Str := ["state", "many", "at"]
theorem sc__law_draw : FnScope N__law_draw ["state", "many"] (defScope s__law_draw) := ⟨rfl, rfl, rfl, by decide +kernel, rfl, by decide +kernel, by decide +kernel⟩
abbrev s__law_whole : Stmt := topS 30
theorem sc__law_whole : FnScope N__law_whole ["x"] (defScope s__law_whole) := ⟨rfl, rfl, rfl, by decide +kernel, rfl, by decide +kernel, by decide +kernel⟩
abbrev s__law_is_lot : Stmt := topS 31
theorem sc__law_is_lot : FnScope N__law_is_lot ["value", "due"] (defScope s__law_is_lot) := ⟨rfl, rfl, rfl, by decide +kernel, rfl, by decide +kernel, by decide +kernel⟩
abbrev s__law_order : Stmt := topS 32
theorem sc__law_order : FnScope N__law_order ["state", "many"] (defScope s__law_order) := ⟨rfl, rfl, rfl, by decide +kernel, rfl, by decide +kernel, by decide +kernel⟩
abbrev s__law_named : Stmt := topS 33
theorem sc__law_named : FnScope N__law_named ["state", "sight"] (defScope s__law_named) := ⟨rfl, rfl, rfl, by decide +kernel, rfl, by decide +kernel, by decide +kernel⟩
abbrev s__law_blocks : Stmt := topS 34
theorem sc__law_blocks : FnScope N__law_blocks ["state", "order"] (defScope s__law_blocks) := ⟨rfl, rfl, rfl, by decide +kernel, rfl, by decide +kernel, by decide +kernel⟩
abbrev s__law_sights : Stmt := topS 35
theorem sc__law_sights : FnScope N__law_sights ["state", "worlds", "people"] (defScope s__law_sights) := ⟨rfl, rfl, rfl, by decide +kernel, rfl, by decide +kernel, by decide +kernel⟩
abbrev s__law_handed : Stmt := topS 36
theorem sc__law_handed : FnScope N__law_handed ["state", "rows"] (defScope s__law_handed) := ⟨rfl, rfl, rfl, by decide +kernel, rfl, by decide +kernel, by decide +kernel⟩
abbrev s__law_plain : Stmt := topS 37
theorem sc__law_plain : FnScope N__law_plain ["rows"] (defScope s__law_plain) := ⟨rfl, rfl, rfl, by decide +kernel, rfl, by decide +kernel, by decide +kernel⟩
abbrev s__law_bad_sights : Stmt := topS 38
theorem sc__law_bad_sights : FnScope N__law_bad_sights ["state", "sights"] (defScope s__law_bad_sights) := ⟨rfl, rfl, rfl, by decide +kernel, rfl, by decide +kernel, by decide +kernel⟩
abbrev s__law_bad_event : Stmt := topS 39
theorem sc__law_bad_event : FnScope N__law_bad_event ["state", "worlds"] (defScope s__law_bad_event) := ⟨rfl, rfl, rfl, by decide +kernel, rfl, by decide +kernel, by decide +kernel⟩
abbrev s__law_answers : Stmt := topS 40
theorem sc__law_answers : FnScope N__law_answers ["sights", "past", "event"] (defScope s__law_answers) := ⟨rfl, rfl, rfl, by decide +kernel, rfl, by decide +kernel, by decide +kernel⟩
abbrev s__law_least : Stmt := topS 41
theorem sc__law_least : FnScope N__law_least ["one", "other"] (defScope s__law_least) := ⟨rfl, rfl, rfl, by decide +kernel, rfl, by decide +kernel, by decide +kernel⟩
abbrev s__law_rounds : Stmt := topS 42
theorem sc__law_rounds : FnScope N__law_rounds ["sights", "event"] (defScope s__law_rounds) := ⟨rfl, rfl, rfl, by decide +kernel, rfl, by decide +kernel, by decide +kernel⟩
abbrev s__law_are_rounds : Stmt := topS 43
theorem sc__law_are_rounds : FnScope N__law_are_rounds ["value", "rounds", "world"] (defScope s__law_are_rounds) := ⟨rfl, rfl, rfl, by decide +kernel, rfl, by decide +kernel, by decide +kernel⟩
abbrev s__law_are_sights : Stmt := topS 44
theorem sc__law_are_sights : FnScope N__law_are_sights ["value", "sights"] (defScope s__law_are_sights) := ⟨rfl, rfl, rfl, by decide +kernel, rfl, by decide +kernel, by decide +kernel⟩
abbrev s__law_ladder : Stmt := topS 45
theorem sc__law_ladder : FnScope N__law_ladder ["state", "worlds", "people"] (defScope s__law_ladder) := ⟨rfl, rfl, rfl, by decide +kernel, rfl, by decide +kernel, by decide +kernel⟩
abbrev s__law_event : Stmt := topS 46
theorem sc__law_event : FnScope N__law_event ["state", "worlds"] (defScope s__law_event) := ⟨rfl, rfl, rfl, by decide +kernel, rfl, by decide +kernel, by decide +kernel⟩
abbrev s__law_others : Stmt := topS 47
theorem sc__law_others : FnScope N__law_others ["worlds", "event"] (defScope s__law_others) := ⟨rfl, rfl, rfl, by decide +kernel, rfl, by decide +kernel, by decide +kernel⟩
abbrev s__law_tells : Stmt := topS 48
theorem sc__law_tells : FnScope N__law_tells ["handed", "sights", "event", "world", "other"] (defScope s__law_tells) := ⟨rfl, rfl, rfl, by decide +kernel, rfl, by decide +kernel, by decide +kernel⟩
abbrev s__law_refusal : Stmt := topS 49
theorem sc__law_refusal : FnScope N__law_refusal ["which", "sights", "event", "world"] (defScope s__law_refusal) := ⟨rfl, rfl, rfl, by decide +kernel, rfl, by decide +kernel, by decide +kernel⟩
abbrev s__law_refuses : Stmt := topS 50
theorem sc__law_refuses : FnScope N__law_refuses ["state", "sights", "event", "world"] (defScope s__law_refuses) := ⟨rfl, rfl, rfl, by decide +kernel, rfl, by decide +kernel, by decide +kernel⟩
abbrev s_law : Stmt := topS 51
theorem sc_law : FnScope N_law ["script"] (defScope s_law) := ⟨rfl, rfl, rfl, by decide +kernel, rfl, by decide +kernel, by decide +kernel⟩
theorem der_is_integer {P : Program} {w : World} {K : PySem.W.Frag} {mg : Str → Option Value} {base : Heap} {f : Addr} (n_bool : mg "bool" = none) (n_int : mg "int" = none) (n_isinstance : mg "isinstance" = none) (cdv : Value) (A : Around) (outer : List Env) (s : Shared) (H : Hp) (E : XK) (hr : Room 0 (A.deeper (envOfC "is_integer" (defScope s_is_integer) s.heap.objs.size f cdv))) :
    PSs (cxOf (L2N.CX P w) P w K mg base N_is_integer "is_integer" (defScope s_is_integer) f cdv A outer s H E) (defBody s_is_integer) (t_is_integer K w E) :=
  (pss_one (ps_ret (pe_and (pe_callB call_isi (by rfl) n_isinstance (by decide +kernel) (pa_cons (pv 0) (pa_cons (pe_bltn (v := .ty "int") (by rfl) n_int (by decide +kernel) rfl) pa_nil))) (pe_one (pe_not (pe_callB call_isi (by rfl) n_isinstance (by decide +kernel) (pa_cons (pv 0) (pa_cons (pe_bltn (v := .ty "bool") (by rfl) n_bool (by decide +kernel) rfl) pa_nil))))))))
theorem der_is_listed {P : Program} {w : World} {K : PySem.W.Frag} {mg : Str → Option Value} {base : Heap} {f : Addr} {sp_is_integer : Sp} (cl_is_integer : Cl P w K mg base 1 "is_integer" sp_is_integer) (n_all : mg "all" = none) (n_isinstance : mg "isinstance" = none) (n_list : mg "list" = none) (n_tuple : mg "tuple" = none) (cdv : Value) (A : Around) (outer : List Env) (s : Shared) (H : Hp) (E : XK) (hr : Room 1 (A.deeper (envOfC "is_listed" (defScope s_is_listed) s.heap.objs.size f cdv))) :
    PSs (cxOf (L2N.CX P w) P w K mg base N_is_listed "is_listed" (defScope s_is_listed) f cdv A outer s H E) (defBody s_is_listed) (t_is_listed K w sp_is_integer E) :=
  (pss_one (ps_ret (pe_and (pe_callB call_isiT (by rfl) n_isinstance (by decide +kernel) (pa_cons (pv 0) (pa_cons (pe_tup (pa_cons (pe_bltn (v := .ty "list") (by rfl) n_list (by decide +kernel) rfl) (pa_cons (pe_bltn (v := .ty "tuple") (by rfl) n_tuple (by decide +kernel) rfl) pa_nil))) pa_nil))) (pe_one (pe_callB (cr_all rfl) (by rfl) n_all (by decide +kernel) (pa_cons (pe_lc (own := [("value", 1)]) rfl sc_is_listed.nd (pi_seq (pv 0)) (blkOk_by (own := [("value", 1)]) (N := N_is_listed) (sc := defScope s_is_listed) (by decide +kernel)) (fun _ _ _ _ _ => (pg_name (i := 1) sc_is_listed.nd rfl (by first | exact Or.inl rfl | exact Or.inr rfl))) (fun _ _ _ _ _ => pts_nil) (fun _ _ _ _ _ => (dCall (E := E0) cl_is_integer hr (by decide) (by rfl) passN (pa_cons (pv 1) pa_nil)))) pa_nil))))))
theorem der_is_from_to {P : Program} {w : World} {K : PySem.W.Frag} {mg : Str → Option Value} {base : Heap} {f : Addr} {sp_is_integer : Sp} (cl_is_integer : Cl P w K mg base 1 "is_integer" sp_is_integer) (cdv : Value) (A : Around) (outer : List Env) (s : Shared) (H : Hp) (E : XK) (hr : Room 1 (A.deeper (envOfC "is_from_to" (defScope s_is_from_to) s.heap.objs.size f cdv))) :
    PSs (cxOf (L2N.CX P w) P w K mg base N_is_from_to "is_from_to" (defScope s_is_from_to) f cdv A outer s H E) (defBody s_is_from_to) (t_is_from_to K w sp_is_integer E) :=
  (pss_one (ps_ret (pe_and (dCall (E := E) cl_is_integer hr (by decide) (by rfl) (L2N.passes_call (L2N.takes_of rfl rfl rfl rfl) fun _ _ _ _ h => h) (pa_cons (pv 0) pa_nil)) (pe_one (pe_chain oLe oLe (pv 1) (pv 0) (pv 2))))))
theorem der_check_number {P : Program} {w : World} {K : PySem.W.Frag} {mg : Str → Option Value} {base : Heap} {f : Addr} {C_BadNumber : Addr} {sp_is_from_to : Sp} (cl_is_from_to : Cl P w K mg base 2 "is_from_to" sp_is_from_to) (g_BadNumber : mg "BadNumber" = some (.ref C_BadNumber)) (x_BadNumber : ExcF K C_BadNumber) (cdv : Value) (A : Around) (outer : List Env) (s : Shared) (H : Hp) (E : XK) (hr : Room 2 (A.deeper (envOfC "check_number" (defScope s_check_number) s.heap.objs.size f cdv))) :
    PSs (cxOf (L2N.CX P w) P w K mg base N_check_number "check_number" (defScope s_check_number) f cdv A outer s H E) (defBody s_check_number) (t_check_number K w C_BadNumber sp_is_from_to E) :=
  (pss_one (ps_if (pt_not (pt_val (dCall (E := E) cl_is_from_to hr (by decide) (by rfl) (L2N.passes_call (L2N.takes_of rfl rfl rfl rfl) fun _ _ _ _ h => h) (pa_cons (pv 0) (pa_cons (pv 1) (pa_cons (pv 2) pa_nil)))))) (pss_one (L2N.ps_raise (W := fun cls d _ H' => E cls d H') rfl (L2N.takes_of rfl rfl rfl rfl) (L2N.pmk_own PySem.F.excBase_ValueError x_BadNumber.1 g_BadNumber x_BadNumber.2.1 (raises_own x_BadNumber.2.2.1 x_BadNumber.2.2.2) (by rfl)))) pss_nil))
theorem der_is_lot {P : Program} {w : World} {K : PySem.W.Frag} {mg : Str → Option Value} {base : Heap} {f : Addr} {sp_is_from_to : Sp} (cl_is_from_to : Cl P w K mg base 2 "is_from_to" sp_is_from_to) (n_isinstance : mg "isinstance" = none) (n_tuple : mg "tuple" = none) (cdv : Value) (A : Around) (outer : List Env) (s : Shared) (H : Hp) (E : XK) (hr : Room 2 (A.deeper (envOfC "is_lot" (defScope s_is_lot) s.heap.objs.size f cdv))) :
    PSs (cxOf (L2N.CX P w) P w K mg base N_is_lot "is_lot" (defScope s_is_lot) f cdv A outer s H E) (defBody s_is_lot) (t_is_lot K w sp_is_from_to E) :=
  (pss_cons (ps_if (pt_not (pt_val (pe_callB call_isi (by rfl) n_isinstance (by decide +kernel) (pa_cons (pv 0) (pa_cons (pe_bltn (v := .ty "tuple") (by rfl) n_tuple (by decide +kernel) rfl) pa_nil))))) (pss_one (ps_ret pe_bl)) pss_nil)
    (pss_cons (ps_set (i := 2) sc_is_lot.nd rfl (by first | exact Or.inl rfl | exact Or.inr rfl) pe_int)
    (pss_cons (ps_for (passes_of rfl) rfl (pi_seq (pv 0)) (pg_name (i := 3) sc_is_lot.nd rfl (by first | exact Or.inl rfl | exact Or.inr rfl)) (pss_cons (ps_if (pt_not (pt_val (dCall (E := E) cl_is_from_to hr (by decide) (by rfl) (L2N.passes_call (L2N.takes_of rfl rfl rfl rfl) fun _ _ _ _ h => h) (pa_cons (pv 3) (pa_cons (pv 2) (pa_cons (pe_op oSub (pv 1) pe_int) pa_nil)))))) (pss_one (ps_ret pe_bl)) pss_nil)
    (pss_one (ps_set (i := 2) sc_is_lot.nd rfl (by first | exact Or.inl rfl | exact Or.inr rfl) (pe_op oAdd (pv 3) pe_int)))))
    (pss_one (ps_ret pe_bl)))))
theorem der_check_sights {P : Program} {w : World} {K : PySem.W.Frag} {mg : Str → Option Value} {base : Heap} {f : Addr} {C_BadWorlds : Addr} {sp_is_listed : Sp} (cl_is_listed : Cl P w K mg base 2 "is_listed" sp_is_listed) (c_MOST_PEOPLE : ∃ t, mg "MOST_PEOPLE" = some (.int 4 t)) (c_MOST_WORLDS : ∃ t, mg "MOST_WORLDS" = some (.int 10 t)) (g_BadWorlds : mg "BadWorlds" = some (.ref C_BadWorlds)) (x_BadWorlds : ExcF K C_BadWorlds) (n_all : mg "all" = none) (n_isinstance : mg "isinstance" = none) (n_len : mg "len" = none) (n_list : mg "list" = none) (n_tuple : mg "tuple" = none) (cdv : Value) (A : Around) (outer : List Env) (s : Shared) (H : Hp) (E : XK) (hr : Room 2 (A.deeper (envOfC "check_sights" (defScope s_check_sights) s.heap.objs.size f cdv))) :
    PSs (cxOf (L2N.CX P w) P w K mg base N_check_sights "check_sights" (defScope s_check_sights) f cdv A outer s H E) (defBody s_check_sights) (t_check_sights K w C_BadWorlds sp_is_listed E) :=
  (pss_cons (ps_if (PW.pt (pw_or (pt_not (pt_val (pe_callB call_isiT (by rfl) n_isinstance (by decide +kernel) (pa_cons (pv 0) (pa_cons (pe_tup (pa_cons (pe_bltn (v := .ty "list") (by rfl) n_list (by decide +kernel) rfl) (pa_cons (pe_bltn (v := .ty "tuple") (by rfl) n_tuple (by decide +kernel) rfl) pa_nil))) pa_nil))))) (pw_or1 (pt_not (pt_chain oLe oLe pe_int (pe_callB cLen (by rfl) n_len (by decide +kernel) (pa_cons (pv 0) pa_nil)) (dGlobI (by rfl) c_MOST_PEOPLE)))))) (pss_one (L2N.ps_raise (W := fun cls d _ H' => E cls d H') rfl (L2N.takes_of rfl rfl rfl rfl) (L2N.pmk_own PySem.F.excBase_ValueError x_BadWorlds.1 g_BadWorlds x_BadWorlds.2.1 (raises_own x_BadWorlds.2.2.1 x_BadWorlds.2.2.2) (by rfl)))) pss_nil)
    (pss_cons (ps_for (passes_of rfl) rfl (pi_seq (pv 0)) (pg_name (i := 1) sc_check_sights.nd rfl (by first | exact Or.inl rfl | exact Or.inr rfl)) (pss_cons (ps_if (PW.pt (pw_or (pt_not (pt_val (dCall (E := E) cl_is_listed hr (by decide) (by rfl) (L2N.passes_call (L2N.takes_of rfl rfl rfl rfl) fun _ _ _ _ h => h) (pa_cons (pv 1) pa_nil)))) (pw_or (pt_not (pt_chain oLe oLe pe_int (pe_callB cLen (by rfl) n_len (by decide +kernel) (pa_cons (pv 1) pa_nil)) (dGlobI (by rfl) c_MOST_WORLDS))) (pw_or1 (pt_cmpR (oNe hr.units) (pe_callB cLen (by rfl) n_len (by decide +kernel) (pa_cons (pv 1) pa_nil)) (pe_callB cLen (by rfl) n_len (by decide +kernel) (pa_cons (pe_ix ix_seq (pv 0) pe_int (fun _ _ => rfl)) pa_nil)) (nomark _)))))) (pss_one (L2N.ps_raise (W := fun cls d _ H' => E cls d H') rfl (L2N.takes_of rfl rfl rfl rfl) (L2N.pmk_own PySem.F.excBase_ValueError x_BadWorlds.1 g_BadWorlds x_BadWorlds.2.1 (raises_own x_BadWorlds.2.2.1 x_BadWorlds.2.2.2) (by rfl)))) pss_nil)
    (pss_one (ps_if (pt_not (pt_val (pe_callB (cr_all rfl) (by rfl) n_all (by decide +kernel) (pa_cons (pe_lc (own := [("number", 2)]) rfl sc_check_sights.nd (pi_seq (pv 1)) (blkOk_by (own := [("number", 2)]) (N := N_check_sights) (sc := defScope s_check_sights) (by decide +kernel)) (fun _ _ _ _ _ => (pg_name (i := 2) sc_check_sights.nd rfl (by first | exact Or.inl rfl | exact Or.inr rfl))) (fun _ _ _ _ _ => pts_nil) (fun _ _ _ _ _ => (pe_cmpR oGe (pv 2) pe_int (nomark _)))) pa_nil)))) (pss_one (L2N.ps_raise (W := fun cls d _ H' => E cls d H') rfl (L2N.takes_of rfl rfl rfl rfl) (L2N.pmk_own PySem.F.excBase_ValueError x_BadWorlds.1 g_BadWorlds x_BadWorlds.2.1 (raises_own x_BadWorlds.2.2.1 x_BadWorlds.2.2.2) (by rfl)))) pss_nil))))
    (pss_one (ps_ret (pe_lc (own := [("sight", 1)]) rfl sc_check_sights.nd (pi_seq (pv 0)) (blkOk_by (own := [("sight", 1)]) (N := N_check_sights) (sc := defScope s_check_sights) (by decide +kernel)) (fun _ _ _ _ _ => (pg_name (i := 1) sc_check_sights.nd rfl (by first | exact Or.inl rfl | exact Or.inr rfl))) (fun _ _ _ _ _ => pts_nil) (fun _ _ _ _ _ => (pe_tupleOf (by rfl) n_tuple (pv 1))))))))
theorem der_check_event {P : Program} {w : World} {K : PySem.W.Frag} {mg : Str → Option Value} {base : Heap} {f : Addr} {C_BadWorlds : Addr} {sp_is_lot : Sp} (cl_is_lot : Cl P w K mg base 3 "is_lot" sp_is_lot) (g_BadWorlds : mg "BadWorlds" = some (.ref C_BadWorlds)) (x_BadWorlds : ExcF K C_BadWorlds) (n_len : mg "len" = none) (cdv : Value) (A : Around) (outer : List Env) (s : Shared) (H : Hp) (E : XK) (hr : Room 3 (A.deeper (envOfC "check_event" (defScope s_check_event) s.heap.objs.size f cdv))) :
    PSs (cxOf (L2N.CX P w) P w K mg base N_check_event "check_event" (defScope s_check_event) f cdv A outer s H E) (defBody s_check_event) (t_check_event K w C_BadWorlds sp_is_lot E) :=
  (pss_one (ps_if (pt_not (pt_val (dCall (E := E) cl_is_lot hr (by decide) (by rfl) (L2N.passes_call (L2N.takes_of rfl rfl rfl rfl) fun _ _ _ _ h => h) (pa_cons (pv 1) (pa_cons (pe_callB cLen (by rfl) n_len (by decide +kernel) (pa_cons (pe_ix ix_seq (pv 0) pe_int (fun _ _ => rfl)) pa_nil)) pa_nil))))) (pss_one (L2N.ps_raise (W := fun cls d _ H' => E cls d H') rfl (L2N.takes_of rfl rfl rfl rfl) (L2N.pmk_own PySem.F.excBase_ValueError x_BadWorlds.1 g_BadWorlds x_BadWorlds.2.1 (raises_own x_BadWorlds.2.2.1 x_BadWorlds.2.2.2) (by rfl)))) pss_nil))
theorem der_possible {P : Program} {w : World} {K : PySem.W.Frag} {mg : Str → Option Value} {base : Heap} {f : Addr} (n_enumerate : mg "enumerate" = none) (n_tuple : mg "tuple" = none) (cdv : Value) (A : Around) (outer : List Env) (s : Shared) (H : Hp) (E : XK) (hr : Room 0 (A.deeper (envOfC "possible" (defScope s_possible) s.heap.objs.size f cdv))) :
    PSs (cxOf (L2N.CX P w) P w K mg base N_possible "possible" (defScope s_possible) f cdv A outer s H E) (defBody s_possible) (t_possible K w E) :=
  (pss_one (ps_ret (pe_tupleOf (by rfl) n_tuple (pe_lc (own := [("other", 2), ("number", 3)]) rfl sc_possible.nd (pi_enumA (by rfl) n_enumerate (pa_cons (pv 0) pa_nil)) (blkOk_by (own := [("other", 2), ("number", 3)]) (N := N_possible) (sc := defScope s_possible) (by decide +kernel)) (fun _ _ _ _ _ => (pg_tup rfl (pgs_cons (pg_name (i := 2) sc_possible.nd rfl (by first | exact Or.inl rfl | exact Or.inr rfl)) (pgs_cons (pg_name (i := 3) sc_possible.nd rfl (by first | exact Or.inl rfl | exact Or.inr rfl)) pgs_nil)))) (fun _ _ _ _ _ => (pts_one (pt_cmpR (oEq hr.units) (pv 3) (pe_ix ix_seq (pv 0) (pv 1) (fun _ _ => rfl)) (nomark _)))) (fun _ _ _ _ _ => (pv 2))))))
theorem der_known_at {P : Program} {w : World} {K : PySem.W.Frag} {mg : Str → Option Value} {base : Heap} {f : Addr} {sp_possible : Sp} (cl_possible : Cl P w K mg base 1 "possible" sp_possible) (n_all : mg "all" = none) (n_len : mg "len" = none) (n_range : mg "range" = none) (n_tuple : mg "tuple" = none) (cdv : Value) (A : Around) (outer : List Env) (s : Shared) (H : Hp) (E : XK) (hr : Room 1 (A.deeper (envOfC "known_at" (defScope s_known_at) s.heap.objs.size f cdv))) :
    PSs (cxOf (L2N.CX P w) P w K mg base N_known_at "known_at" (defScope s_known_at) f cdv A outer s H E) (defBody s_known_at) (t_known_at K w sp_possible E) :=
  (pss_one (ps_ret (pe_tupleOf (by rfl) n_tuple (pe_lc (own := [("world", 2)]) rfl sc_known_at.nd (pi_range1 (by rfl) n_range (pa_cons (pe_callB cLen (by rfl) n_len (by decide +kernel) (pa_cons (pv 0) pa_nil)) pa_nil)) (blkOk_by (own := [("world", 2)]) (N := N_known_at) (sc := defScope s_known_at) (by decide +kernel)) (fun _ _ _ _ _ => (pg_name (i := 2) sc_known_at.nd rfl (by first | exact Or.inl rfl | exact Or.inr rfl))) (fun _ _ _ _ _ => (pts_one (pt_val (pe_callB (cr_all rfl) (by rfl) n_all (by decide +kernel) (pa_cons (pe_lc (own := [("other", 3)]) rfl sc_known_at.nd (pi_seq (dCall (E := E0) cl_possible hr (by decide) (by rfl) passN (pa_cons (pv 0) (pa_cons (pv 2) pa_nil)))) (blkOk_by (own := [("other", 3)]) (N := N_known_at) (by kernel_rfl)) (fun _ _ _ _ _ => (pg_name (i := 3) sc_known_at.nd rfl (by first | exact Or.inl rfl | exact Or.inr rfl))) (fun _ _ _ _ _ => pts_nil) (fun _ _ _ _ _ => (pe_cmpR (oIn (hu1 hr)) (pv 3) (pv 1) (by rfl)))) pa_nil))))) (fun _ _ _ _ _ => (pv 2))))))
theorem der_numbered {P : Program} {w : World} {K : PySem.W.Frag} {mg : Str → Option Value} {base : Heap} {f : Addr} {sp_possible : Sp} (cl_possible : Cl P w K mg base 1 "possible" sp_possible) (n_len : mg "len" = none) (n_range : mg "range" = none) (n_tuple : mg "tuple" = none) (cdv : Value) (A : Around) (outer : List Env) (s : Shared) (H : Hp) (E : XK) (hr : Room 1 (A.deeper (envOfC "numbered" (defScope s_numbered) s.heap.objs.size f cdv))) :
    PSs (cxOf (L2N.CX P w) P w K mg base N_numbered "numbered" (defScope s_numbered) f cdv A outer s H E) (defBody s_numbered) (t_numbered K w sp_possible E) :=
  (pss_one (ps_ret (pe_tupleOf (by rfl) n_tuple (pe_lc (own := [("world", 1)]) rfl sc_numbered.nd (pi_range1 (by rfl) n_range (pa_cons (pe_callB cLen (by rfl) n_len (by decide +kernel) (pa_cons (pv 0) pa_nil)) pa_nil)) (blkOk_by (own := [("world", 1)]) (N := N_numbered) (sc := defScope s_numbered) (by decide +kernel)) (fun _ _ _ _ _ => (pg_name (i := 1) sc_numbered.nd rfl (by first | exact Or.inl rfl | exact Or.inr rfl))) (fun _ _ _ _ _ => pts_nil) (fun _ _ _ _ _ => (pe_ix ix_seq (dCall (E := E0) cl_possible hr (by decide) (by rfl) passN (pa_cons (pv 0) (pa_cons (pv 1) pa_nil))) pe_int (fun _ _ => rfl)))))))
theorem der_answers_at {P : Program} {w : World} {K : PySem.W.Frag} {mg : Str → Option Value} {base : Heap} {f : Addr} {sp_known_at : Sp} (cl_known_at : Cl P w K mg base 2 "known_at" sp_known_at) (n_int : mg "int" = none) (n_len : mg "len" = none) (n_range : mg "range" = none) (n_tuple : mg "tuple" = none) (n_zip : mg "zip" = none) (cdv : Value) (A : Around) (outer : List Env) (s : Shared) (H : Hp) (E : XK) (hr : Room 2 (A.deeper (envOfC "answers_at" (defScope s_answers_at) s.heap.objs.size f cdv))) :
    PSs (cxOf (L2N.CX P w) P w K mg base N_answers_at "answers_at" (defScope s_answers_at) f cdv A outer s H E) (defBody s_answers_at) (t_answers_at K w sp_known_at E) :=
  (pss_cons (ps_set (i := 3) sc_answers_at.nd rfl (by first | exact Or.inl rfl | exact Or.inr rfl) (pe_lst pa_nil))
    (pss_cons (ps_for (passes_of rfl) rfl (pi_zipM (by rfl) n_zip (pa_cons (pv 0) (pa_cons (pv 1) pa_nil))) (pg_tup rfl (pgs_cons (pg_name (i := 4) sc_answers_at.nd rfl (by first | exact Or.inl rfl | exact Or.inr rfl)) (pgs_cons (pg_name (i := 5) sc_answers_at.nd rfl (by first | exact Or.inl rfl | exact Or.inr rfl)) pgs_nil))) (pss_cons (ps_set (i := 6) sc_answers_at.nd rfl (by first | exact Or.inl rfl | exact Or.inr rfl) (pe_tupleOf (by rfl) n_tuple (pe_lc (own := [("other", 7)]) rfl sc_answers_at.nd (pi_range1 (by rfl) n_range (pa_cons (pe_callB cLen (by rfl) n_len (by decide +kernel) (pa_cons (pv 4) pa_nil)) pa_nil)) (blkOk_by (own := [("other", 7)]) (N := N_answers_at) (sc := defScope s_answers_at) (by decide +kernel)) (fun _ _ _ _ _ => (pg_name (i := 7) sc_answers_at.nd rfl (by first | exact Or.inl rfl | exact Or.inr rfl))) (fun _ _ _ _ _ => (pts_one (pt_cmpR (oNi (hu1 hr)) (pv 7) (pv 5) (by rfl)))) (fun _ _ _ _ _ => (pv 7)))))
    (pss_one (ps_expr (pe_bm PySem.F.plainAttrs_list PySem.F.slot_list_append PySem.F.type_list_append mt_append (pv 3) (pa_cons (pe_callTy cInt (by rfl) n_int (by decide +kernel) (pa_cons (pe_or (pe_cmpR (oIn (hu1 hr)) (pv 2) (dCall (E := E) cl_known_at hr (by decide) (by rfl) (L2N.passes_call (L2N.takes_of rfl rfl rfl rfl) fun _ _ _ _ h => h) (pa_cons (pv 4) (pa_cons (pv 5) pa_nil))) (by rfl)) (pe_one (pe_cmpR (oIn (hu1 hr)) (pv 2) (dCall (E := E) cl_known_at hr (by decide) (by rfl) (L2N.passes_call (L2N.takes_of rfl rfl rfl rfl) fun _ _ _ _ h => h) (pa_cons (pv 4) (pa_cons (pv 6) pa_nil))) (by rfl)))) pa_nil)) pa_nil))))))
    (pss_one (ps_ret (pe_tupleOf (by rfl) n_tuple (pv 3))))))
theorem der_heard {P : Program} {w : World} {K : PySem.W.Frag} {mg : Str → Option Value} {base : Heap} {f : Addr} (n_tuple : mg "tuple" = none) (n_zip : mg "zip" = none) (cdv : Value) (A : Around) (outer : List Env) (s : Shared) (H : Hp) (E : XK) (hr : Room 0 (A.deeper (envOfC "heard" (defScope s_heard) s.heap.objs.size f cdv))) :
    PSs (cxOf (L2N.CX P w) P w K mg base N_heard "heard" (defScope s_heard) f cdv A outer s H E) (defBody s_heard) (t_heard K w E) :=
  (pss_cons (ps_set (i := 2) sc_heard.nd rfl (by first | exact Or.inl rfl | exact Or.inr rfl) (pe_lst pa_nil))
    (pss_cons (ps_for (passes_of rfl) rfl (pi_seq (pv 0)) (pg_name (i := 3) sc_heard.nd rfl (by first | exact Or.inl rfl | exact Or.inr rfl)) (pss_cons (ps_set (i := 4) sc_heard.nd rfl (by first | exact Or.inl rfl | exact Or.inr rfl) (pe_lc (own := [("number", 5), ("row", 6)]) rfl sc_heard.nd (pi_zipM (by rfl) n_zip (pa_cons (pv 3) (pa_cons (pv 1) pa_nil))) (blkOk_by (own := [("number", 5), ("row", 6)]) (N := N_heard) (sc := defScope s_heard) (by decide +kernel)) (fun _ _ _ _ _ => (pg_tup rfl (pgs_cons (pg_name (i := 5) sc_heard.nd rfl (by first | exact Or.inl rfl | exact Or.inr rfl)) (pgs_cons (pg_name (i := 6) sc_heard.nd rfl (by first | exact Or.inl rfl | exact Or.inr rfl)) pgs_nil)))) (fun _ _ _ _ _ => pts_nil) (fun _ _ _ _ _ => (pe_tup (pa_cons (pv 5) (pa_cons (pv 6) pa_nil))))))
    (pss_one (ps_expr (pe_bm PySem.F.plainAttrs_list PySem.F.slot_list_append PySem.F.type_list_append mt_append (pv 2) (pa_cons (pe_tupleOf (by rfl) n_tuple (pe_lc (own := [("pair", 7)]) rfl sc_heard.nd (pi_seq (pv 4)) (blkOk_by (own := [("pair", 7)]) (N := N_heard) (sc := defScope s_heard) (by decide +kernel)) (fun _ _ _ _ _ => (pg_name (i := 7) sc_heard.nd rfl (by first | exact Or.inl rfl | exact Or.inr rfl))) (fun _ _ _ _ _ => pts_nil) (fun _ _ _ _ _ => (pe_bm PySem.F.plainAttrs_list PySem.F.slot_list_index PySem.F.type_list_index (mt_indexD (by have z := hu1 hr; exact z)) (pv 4) (pa_cons (pv 7) pa_nil))))) pa_nil))))))
    (pss_one (ps_ret (pv 2)))))
theorem der_all_rounds {P : Program} {w : World} {K : PySem.W.Frag} {mg : Str → Option Value} {base : Heap} {f : Addr} {sp_answers_at : Sp} {sp_heard : Sp} {sp_numbered : Sp} (cl_answers_at : Cl P w K mg base 3 "answers_at" sp_answers_at) (cl_heard : Cl P w K mg base 1 "heard" sp_heard) (cl_numbered : Cl P w K mg base 2 "numbered" sp_numbered) (n_len : mg "len" = none) (n_range : mg "range" = none) (cdv : Value) (A : Around) (outer : List Env) (s : Shared) (H : Hp) (E : XK) (hr : Room 3 (A.deeper (envOfC "all_rounds" (defScope s_all_rounds) s.heap.objs.size f cdv))) :
    PSs (cxOf (L2N.CX P w) P w K mg base N_all_rounds "all_rounds" (defScope s_all_rounds) f cdv A outer s H E) (defBody s_all_rounds) (t_all_rounds K w sp_answers_at sp_heard sp_numbered E) :=
  (pss_cons (ps_set (i := 0) sc_all_rounds.nd rfl (by first | exact Or.inl rfl | exact Or.inr rfl) (pe_lc (own := [("sight", 5)]) rfl sc_all_rounds.nd (pi_seq (pv 0)) (blkOk_by (own := [("sight", 5)]) (N := N_all_rounds) (sc := defScope s_all_rounds) (by decide +kernel)) (fun _ _ _ _ _ => (pg_name (i := 5) sc_all_rounds.nd rfl (by first | exact Or.inl rfl | exact Or.inr rfl))) (fun _ _ _ _ _ => pts_nil) (fun _ _ _ _ _ => (dCall (E := E0) cl_numbered hr (by decide) (by rfl) passN (pa_cons (pv 5) pa_nil)))))
    (pss_cons (ps_set (i := 2) sc_all_rounds.nd rfl (by first | exact Or.inl rfl | exact Or.inr rfl) (pe_lst pa_nil))
    (pss_one (ps_while (passes_of rfl) (pt_val pe_bl) (pss_cons (ps_setLc (i := 3) (own := [("world", 6)]) rfl sc_all_rounds.nd rfl rfl (sw_true rfl rfl rfl (by decide +kernel)) (pi_range1 (by rfl) n_range (pa_cons (pe_callB cLen (by rfl) n_len (by decide +kernel) (pa_cons (pe_ix ix_seq (pv 0) pe_int (fun _ _ => rfl)) pa_nil)) pa_nil)) (blkOk_by (own := [("world", 6)]) (N := N_all_rounds) (sc := defScope s_all_rounds) (by decide +kernel)) (fun _ _ _ _ _ => (pg_name (i := 6) sc_all_rounds.nd rfl (by first | exact Or.inl rfl | exact Or.inr rfl))) (fun _ _ _ _ _ => pts_nil) (fun _ _ _ _ _ => (dCall (E := E0) cl_answers_at hr (by decide) (by rfl) passN (pa_cons (pv 0) (pa_cons (pv 1) (pa_cons (pv 6) pa_nil))))))
    (pss_cons (ps_expr (pe_bm PySem.F.plainAttrs_list PySem.F.slot_list_append PySem.F.type_list_append mt_append (pv 2) (pa_cons (pv 3) pa_nil)))
    (pss_cons (ps_set (i := 4) sc_all_rounds.nd rfl (by first | exact Or.inl rfl | exact Or.inr rfl) (dCall (E := E) cl_heard hr (by decide) (by rfl) (L2N.passes_call (L2N.takes_of rfl rfl rfl rfl) fun _ _ _ _ h => h) (pa_cons (pv 0) (pa_cons (pv 3) pa_nil))))
    (pss_cons (ps_if (pt_cmpR (oEq hr.units) (pv 4) (pv 0) (nomark _)) (pss_one (ps_ret (pe_tup (pa_cons (pv 2) (pa_cons (pv 0) pa_nil))))) pss_nil)
    (pss_one (ps_set (i := 0) sc_all_rounds.nd rfl (by first | exact Or.inl rfl | exact Or.inr rfl) (pv 4)))))))))))
theorem der_asked {P : Program} {w : World} {K : PySem.W.Frag} {mg : Str → Option Value} {base : Heap} {f : Addr} {sp_all_rounds : Sp} {sp_check_event : Sp} {sp_check_number : Sp} {sp_check_sights : Sp} (cl_all_rounds : Cl P w K mg base 4 "all_rounds" sp_all_rounds) (cl_check_event : Cl P w K mg base 4 "check_event" sp_check_event) (cl_check_number : Cl P w K mg base 3 "check_number" sp_check_number) (cl_check_sights : Cl P w K mg base 3 "check_sights" sp_check_sights) (n_len : mg "len" = none) (n_tuple : mg "tuple" = none) (cdv : Value) (A : Around) (outer : List Env) (s : Shared) (H : Hp) (E : XK) (hr : Room 4 (A.deeper (envOfC "asked" (defScope s_asked) s.heap.objs.size f cdv))) :
    PSs (cxOf (L2N.CX P w) P w K mg base N_asked "asked" (defScope s_asked) f cdv A outer s H E) (defBody s_asked) (t_asked K w sp_all_rounds sp_check_event sp_check_number sp_check_sights E) :=
  (pss_cons (ps_set (i := 3) sc_asked.nd rfl (by first | exact Or.inl rfl | exact Or.inr rfl) (dCall (E := E) cl_check_sights hr (by decide) (by rfl) (L2N.passes_call (L2N.takes_of rfl rfl rfl rfl) fun _ _ _ _ h => h) (pa_cons (pv 0) pa_nil)))
    (pss_cons (ps_expr (dCall (E := E) cl_check_event hr (by decide) (by rfl) (L2N.passes_call (L2N.takes_of rfl rfl rfl rfl) fun _ _ _ _ h => h) (pa_cons (pv 3) (pa_cons (pv 1) pa_nil))))
    (pss_cons (ps_expr (dCall (E := E) cl_check_number hr (by decide) (by rfl) (L2N.passes_call (L2N.takes_of rfl rfl rfl rfl) fun _ _ _ _ h => h) (pa_cons (pv 2) (pa_cons pe_int (pa_cons (pe_op oSub (pe_callB cLen (by rfl) n_len (by decide +kernel) (pa_cons (pe_ix ix_seq (pv 3) pe_int (fun _ _ => rfl)) pa_nil)) pe_int) pa_nil)))))
    (pss_cons (ps_asg (dCall (E := E) cl_all_rounds hr (by decide) (by rfl) (L2N.passes_call (L2N.takes_of rfl rfl rfl rfl) fun _ _ _ _ h => h) (pa_cons (pv 3) (pa_cons (pe_op oMul (pe_lst (pa_cons (pv 1) pa_nil)) (pe_callB cLen (by rfl) n_len (by decide +kernel) (pa_cons (pv 3) pa_nil))) pa_nil))) (pg_tup rfl (pgs_cons (pg_name (i := 4) sc_asked.nd rfl (by first | exact Or.inl rfl | exact Or.inr rfl)) (pgs_cons (pg_name (i := 5) sc_asked.nd rfl (by first | exact Or.inl rfl | exact Or.inr rfl)) pgs_nil))))
    (pss_one (ps_ret (pe_tupleOf (by rfl) n_tuple (pe_lc (own := [("answers", 6)]) rfl sc_asked.nd (pi_seq (pv 4)) (blkOk_by (own := [("answers", 6)]) (N := N_asked) (sc := defScope s_asked) (by decide +kernel)) (fun _ _ _ _ _ => (pg_name (i := 6) sc_asked.nd rfl (by first | exact Or.inl rfl | exact Or.inr rfl))) (fun _ _ _ _ _ => pts_nil) (fun _ _ _ _ _ => (pe_ix ix_seq (pv 6) (pv 2) (fun _ _ => rfl)))))))))))
theorem der_parted {P : Program} {w : World} {K : PySem.W.Frag} {mg : Str → Option Value} {base : Heap} {f : Addr} {sp_all_rounds : Sp} {sp_check_event : Sp} {sp_check_sights : Sp} (cl_all_rounds : Cl P w K mg base 4 "all_rounds" sp_all_rounds) (cl_check_event : Cl P w K mg base 4 "check_event" sp_check_event) (cl_check_sights : Cl P w K mg base 3 "check_sights" sp_check_sights) (n_len : mg "len" = none) (n_tuple : mg "tuple" = none) (cdv : Value) (A : Around) (outer : List Env) (s : Shared) (H : Hp) (E : XK) (hr : Room 4 (A.deeper (envOfC "parted" (defScope s_parted) s.heap.objs.size f cdv))) :
    PSs (cxOf (L2N.CX P w) P w K mg base N_parted "parted" (defScope s_parted) f cdv A outer s H E) (defBody s_parted) (t_parted K w sp_all_rounds sp_check_event sp_check_sights E) :=
  (pss_cons (ps_set (i := 2) sc_parted.nd rfl (by first | exact Or.inl rfl | exact Or.inr rfl) (dCall (E := E) cl_check_sights hr (by decide) (by rfl) (L2N.passes_call (L2N.takes_of rfl rfl rfl rfl) fun _ _ _ _ h => h) (pa_cons (pv 0) pa_nil)))
    (pss_cons (ps_expr (dCall (E := E) cl_check_event hr (by decide) (by rfl) (L2N.passes_call (L2N.takes_of rfl rfl rfl rfl) fun _ _ _ _ h => h) (pa_cons (pv 2) (pa_cons (pv 1) pa_nil))))
    (pss_one (ps_ret (pe_tupleOf (by rfl) n_tuple (pe_ix ix_seq (dCall (E := E) cl_all_rounds hr (by decide) (by rfl) (L2N.passes_call (L2N.takes_of rfl rfl rfl rfl) fun _ _ _ _ h => h) (pa_cons (pv 2) (pa_cons (pe_op oMul (pe_lst (pa_cons (pv 1) pa_nil)) (pe_callB cLen (by rfl) n_len (by decide +kernel) (pa_cons (pv 2) pa_nil))) pa_nil))) pe_int (fun _ _ => rfl)))))))
theorem der__law_state {P : Program} {w : World} {K : PySem.W.Frag} {mg : Str → Option Value} {base : Heap} {f : Addr} (n_int : mg "int" = none) (n_len : mg "len" = none) (n_min : mg "min" = none) (n_range : mg "range" = none) (cdv : Value) (A : Around) (outer : List Env) (s : Shared) (H : Hp) (E : XK) (hr : Room 0 (A.deeper (envOfC "_law_state" (defScope s__law_state) s.heap.objs.size f cdv))) :
    PSs (cxOf (L2N.CX P w) P w K mg base N__law_state "_law_state" (defScope s__law_state) f cdv A outer s H E) (defBody s__law_state) (t__law_state K w E) :=
  (pss_cons (ps_set (i := 1) sc__law_state.nd rfl (by first | exact Or.inl rfl | exact Or.inr rfl) pe_int)
    (pss_cons (ps_set (i := 2) sc__law_state.nd rfl (by first | exact Or.inl rfl | exact Or.inr rfl) (pe_lst pa_nil))
    (pss_cons (ps_for (passes_of rfl) rfl (pi_range1 (by rfl) n_range (pa_cons (pe_callB (cMin2 rfl) (by rfl) n_min (by decide +kernel) (pa_cons (pe_callB cLen (by rfl) n_len (by decide +kernel) (pa_cons (pv 0) pa_nil)) (pa_cons pe_int pa_nil))) pa_nil)) (pg_name (i := 3) sc__law_state.nd rfl (by first | exact Or.inl rfl | exact Or.inr rfl)) (pss_cons (ps_set (i := 4) sc__law_state.nd rfl (by first | exact Or.inl rfl | exact Or.inr rfl) (pe_ix ix_seq (pv 0) (pv 3) (fun _ _ => rfl)))
    (pss_cons (ps_if (pt_cmpR oGe (pv 4) (pe_op oPow pe_int pe_int) (nomark _)) (pss_one (ps_expr (pe_bm PySem.F.plainAttrs_list PySem.F.slot_list_append PySem.F.type_list_append mt_append (pv 2) (pa_cons (pv 4) pa_nil)))) pss_nil)
    (pss_one (ps_set (i := 1) sc__law_state.nd rfl (by first | exact Or.inl rfl | exact Or.inr rfl) (pe_op oMod (pe_callTy cInt (by rfl) n_int (by decide +kernel) (pa_cons (pe_op oAdd (pe_op oAdd (pe_op oMul (pv 1) (pv 1)) (pv 4)) (pv 3)) pa_nil)) pe_int))))))
    (pss_one (ps_ret (pe_lst (pa_cons (pv 2) (pa_cons pe_int (pa_cons (pv 1) (pa_cons pe_int pa_nil))))))))))
theorem der__law_draw {P : Program} {w : World} {K : PySem.W.Frag} {mg : Str → Option Value} {base : Heap} {f : Addr} (n_int : mg "int" = none) (n_len : mg "len" = none) (cdv : Value) (A : Around) (outer : List Env) (s : Shared) (H : Hp) (E : XK) (hr : Room 0 (A.deeper (envOfC "_law_draw" (defScope s__law_draw) s.heap.objs.size f cdv))) :
    PSs (cxOf (L2N.CX P w) P w K mg base N__law_draw "_law_draw" (defScope s__law_draw) f cdv A outer s H E) (defBody s__law_draw) (t__law_draw K w E) :=
  (pss_cons (ps_if (PW.pt (pw_and (pt_cmpR (oEq hr.units) (pe_ix ix_seq (pv 0) pe_int (fun _ _ => rfl)) pe_int (nomark _)) (pw_and1 (pt_cmpR oGt (pe_callB cLen (by rfl) n_len (by decide +kernel) (pa_cons (pe_ix ix_seq (pv 0) pe_int (fun _ _ => rfl)) pa_nil)) pe_int (nomark _))))) (pss_one (ps_asg (pe_bm PySem.F.plainAttrs_list PySem.F.slot_list_pop PySem.F.type_list_pop mt_popAt (pe_ix ix_seq (pv 0) pe_int (fun _ _ => rfl)) (pa_cons pe_int pa_nil)) (pg_sub (pv 0) pe_int set_list))) pss_nil)
    (pss_cons (ps_if (pt_cmpR oGt (pe_ix ix_seq (pv 0) pe_int (fun _ _ => rfl)) pe_int (nomark _)) (pss_cons (ps_set (i := 2) sc__law_draw.nd rfl (by first | exact Or.inl rfl | exact Or.inr rfl) (pe_op oMod (pe_callTy cInt (by rfl) n_int (by decide +kernel) (pa_cons (pe_ix ix_seq (pv 0) pe_int (fun _ _ => rfl)) pa_nil)) (pv 1)))
    (pss_cons (ps_asg (pe_op oDiv (pe_ix ix_seq (pv 0) pe_int (fun _ _ => rfl)) (pv 1)) (pg_sub (pv 0) pe_int set_list))
    (pss_one (ps_ret (pv 2))))) pss_nil)
    (pss_cons (ps_asg (pe_op oAdd (pe_ix ix_seq (pv 0) pe_int (fun _ _ => rfl)) pe_int) (pg_sub (pv 0) pe_int set_list))
    (pss_cons (ps_asg (pe_op oMod (pe_callTy cInt (by rfl) n_int (by decide +kernel) (pa_cons (pe_op oAdd (pe_op oAdd (pe_op oMul (pe_ix ix_seq (pv 0) pe_int (fun _ _ => rfl)) (pe_ix ix_seq (pv 0) pe_int (fun _ _ => rfl))) (pe_op oMul (pe_ix ix_seq (pv 0) pe_int (fun _ _ => rfl)) pe_int)) pe_int) pa_nil)) pe_int) (pg_sub (pv 0) pe_int set_list))
    (pss_one (ps_ret (pe_op oMod (pe_callTy cInt (by rfl) n_int (by decide +kernel) (pa_cons (pe_op oDiv (pe_ix ix_seq (pv 0) pe_int (fun _ _ => rfl)) pe_int) pa_nil)) (pv 1))))))))
theorem der__law_whole {P : Program} {w : World} {K : PySem.W.Frag} {mg : Str → Option Value} {base : Heap} {f : Addr} (n_bool : mg "bool" = none) (n_int : mg "int" = none) (n_isinstance : mg "isinstance" = none) (cdv : Value) (A : Around) (outer : List Env) (s : Shared) (H : Hp) (E : XK) (hr : Room 0 (A.deeper (envOfC "_law_whole" (defScope s__law_whole) s.heap.objs.size f cdv))) :
    PSs (cxOf (L2N.CX P w) P w K mg base N__law_whole "_law_whole" (defScope s__law_whole) f cdv A outer s H E) (defBody s__law_whole) (t__law_whole K w E) :=
  (pss_one (ps_ret (pe_and (pe_callB call_isi (by rfl) n_isinstance (by decide +kernel) (pa_cons (pv 0) (pa_cons (pe_bltn (v := .ty "int") (by rfl) n_int (by decide +kernel) rfl) pa_nil))) (pe_one (pe_not (pe_callB call_isi (by rfl) n_isinstance (by decide +kernel) (pa_cons (pv 0) (pa_cons (pe_bltn (v := .ty "bool") (by rfl) n_bool (by decide +kernel) rfl) pa_nil))))))))
theorem der__law_is_lot {P : Program} {w : World} {K : PySem.W.Frag} {mg : Str → Option Value} {base : Heap} {f : Addr} {sp__law_whole : Sp} (cl__law_whole : Cl P w K mg base 1 "_law_whole" sp__law_whole) (n_isinstance : mg "isinstance" = none) (n_len : mg "len" = none) (n_range : mg "range" = none) (n_tuple : mg "tuple" = none) (cdv : Value) (A : Around) (outer : List Env) (s : Shared) (H : Hp) (E : XK) (hr : Room 1 (A.deeper (envOfC "_law_is_lot" (defScope s__law_is_lot) s.heap.objs.size f cdv))) :
    PSs (cxOf (L2N.CX P w) P w K mg base N__law_is_lot "_law_is_lot" (defScope s__law_is_lot) f cdv A outer s H E) (defBody s__law_is_lot) (t__law_is_lot K w sp__law_whole E) :=
  (pss_cons (ps_if (PW.pt (pw_or (pt_not (pt_val (pe_callB call_isi (by rfl) n_isinstance (by decide +kernel) (pa_cons (pv 0) (pa_cons (pe_bltn (v := .ty "tuple") (by rfl) n_tuple (by decide +kernel) rfl) pa_nil))))) (pw_or1 (pt_cmpR (oNe hr.units) (pe_callB cLen (by rfl) n_len (by decide +kernel) (pa_cons (pv 0) pa_nil)) (pe_callB cLen (by rfl) n_len (by decide +kernel) (pa_cons (pv 1) pa_nil)) (nomark _))))) (pss_one (ps_ret pe_bl)) pss_nil)
    (pss_cons (ps_for (passes_of rfl) rfl (pi_range1 (by rfl) n_range (pa_cons (pe_callB cLen (by rfl) n_len (by decide +kernel) (pa_cons (pv 1) pa_nil)) pa_nil)) (pg_name (i := 2) sc__law_is_lot.nd rfl (by first | exact Or.inl rfl | exact Or.inr rfl)) (pss_one (ps_if (PW.pt (pw_or (pt_not (pt_val (dCall (E := E) cl__law_whole hr (by decide) (by rfl) (L2N.passes_call (L2N.takes_of rfl rfl rfl rfl) fun _ _ _ _ h => h) (pa_cons (pe_ix ix_seq (pv 0) (pv 2) (fun _ _ => rfl)) pa_nil)))) (pw_or1 (pt_cmpR (oNe hr.units) (pe_ix ix_seq (pv 0) (pv 2) (fun _ _ => rfl)) (pe_ix ix_seq (pv 1) (pv 2) (fun _ _ => rfl)) (nomark _))))) (pss_one (ps_ret pe_bl)) pss_nil)))
    (pss_one (ps_ret pe_bl))))
theorem der__law_order {P : Program} {w : World} {K : PySem.W.Frag} {mg : Str → Option Value} {base : Heap} {f : Addr} {sp__law_draw : Sp} (cl__law_draw : Cl P w K mg base 1 "_law_draw" sp__law_draw) (n_len : mg "len" = none) (n_list : mg "list" = none) (n_range : mg "range" = none) (cdv : Value) (A : Around) (outer : List Env) (s : Shared) (H : Hp) (E : XK) (hr : Room 1 (A.deeper (envOfC "_law_order" (defScope s__law_order) s.heap.objs.size f cdv))) :
    PSs (cxOf (L2N.CX P w) P w K mg base N__law_order "_law_order" (defScope s__law_order) f cdv A outer s H E) (defBody s__law_order) (t__law_order K w sp__law_draw E) :=
  (pss_cons (ps_set (i := 2) sc__law_order.nd rfl (by first | exact Or.inl rfl | exact Or.inr rfl) (pe_listRg rfl (by rfl) n_list (prg_1 (by rfl) n_range (pv 1))))
    (pss_cons (ps_set (i := 3) sc__law_order.nd rfl (by first | exact Or.inl rfl | exact Or.inr rfl) (pe_lst pa_nil))
    (pss_cons (ps_for (passes_of rfl) rfl (pi_range1 (by rfl) n_range (pa_cons (pv 1) pa_nil)) (pg_name (i := 4) sc__law_order.nd rfl (by first | exact Or.inl rfl | exact Or.inr rfl)) (pss_one (ps_expr (pe_bm PySem.F.plainAttrs_list PySem.F.slot_list_append PySem.F.type_list_append mt_append (pv 3) (pa_cons (pe_bm PySem.F.plainAttrs_list PySem.F.slot_list_pop PySem.F.type_list_pop mt_popAt (pv 2) (pa_cons (dCall (E := E) cl__law_draw hr (by decide) (by rfl) (L2N.passes_call (L2N.takes_of rfl rfl rfl rfl) fun _ _ _ _ h => h) (pa_cons (pv 0) (pa_cons (pe_callB cLen (by rfl) n_len (by decide +kernel) (pa_cons (pv 2) pa_nil)) pa_nil))) pa_nil)) pa_nil)))))
    (pss_one (ps_ret (pv 3))))))
theorem der__law_named {P : Program} {w : World} {K : PySem.W.Frag} {mg : Str → Option Value} {base : Heap} {f : Addr} {sp__law_draw : Sp} (cl__law_draw : Cl P w K mg base 1 "_law_draw" sp__law_draw) (cdv : Value) (A : Around) (outer : List Env) (s : Shared) (H : Hp) (E : XK) (hr : Room 1 (A.deeper (envOfC "_law_named" (defScope s__law_named) s.heap.objs.size f cdv))) :
    PSs (cxOf (L2N.CX P w) P w K mg base N__law_named "_law_named" (defScope s__law_named) f cdv A outer s H E) (defBody s__law_named) (t__law_named K w sp__law_draw E) :=
  (pss_cons (ps_set (i := 2) sc__law_named.nd rfl (by first | exact Or.inl rfl | exact Or.inr rfl) (pe_op oAdd pe_int (dCall (E := E) cl__law_draw hr (by decide) (by rfl) (L2N.passes_call (L2N.takes_of rfl rfl rfl rfl) fun _ _ _ _ h => h) (pa_cons (pv 0) (pa_cons pe_int pa_nil)))))
    (pss_cons (ps_if (pt_cmpR (oEq hr.units) (dCall (E := E) cl__law_draw hr (by decide) (by rfl) (L2N.passes_call (L2N.takes_of rfl rfl rfl rfl) fun _ _ _ _ h => h) (pa_cons (pv 0) (pa_cons pe_int pa_nil))) pe_int (nomark _)) (pss_one (ps_ret (pe_lc (own := [("n", 4)]) rfl sc__law_named.nd (pi_seq (pv 1)) (blkOk_by (own := [("n", 4)]) (N := N__law_named) (sc := defScope s__law_named) (by decide +kernel)) (fun _ _ _ _ _ => (pg_name (i := 4) sc__law_named.nd rfl (by first | exact Or.inl rfl | exact Or.inr rfl))) (fun _ _ _ _ _ => pts_nil) (fun _ _ _ _ _ => (pe_op oSub pe_int (pe_op oMul (pv 2) (pv 4))))))) pss_nil)
    (pss_cons (ps_set (i := 3) sc__law_named.nd rfl (by first | exact Or.inl rfl | exact Or.inr rfl) (pe_ix ix_seq (pe_lst (pa_cons pe_int (pa_cons pe_int (pa_cons (pe_op oPow pe_int pe_int) pa_nil)))) (dCall (E := E) cl__law_draw hr (by decide) (by rfl) (L2N.passes_call (L2N.takes_of rfl rfl rfl rfl) fun _ _ _ _ h => h) (pa_cons (pv 0) (pa_cons pe_int pa_nil))) (fun _ _ => rfl)))
    (pss_one (ps_ret (pe_lc (own := [("n", 4)]) rfl sc__law_named.nd (pi_seq (pv 1)) (blkOk_by (own := [("n", 4)]) (N := N__law_named) (sc := defScope s__law_named) (by decide +kernel)) (fun _ _ _ _ _ => (pg_name (i := 4) sc__law_named.nd rfl (by first | exact Or.inl rfl | exact Or.inr rfl))) (fun _ _ _ _ _ => pts_nil) (fun _ _ _ _ _ => (pe_op oAdd (pv 3) (pe_op oMul (pv 2) (pv 4))))))))))
theorem der__law_blocks {P : Program} {w : World} {K : PySem.W.Frag} {mg : Str → Option Value} {base : Heap} {f : Addr} {sp__law_draw : Sp} (cl__law_draw : Cl P w K mg base 1 "_law_draw" sp__law_draw) (n_int : mg "int" = none) (n_len : mg "len" = none) (n_range : mg "range" = none) (cdv : Value) (A : Around) (outer : List Env) (s : Shared) (H : Hp) (E : XK) (hr : Room 1 (A.deeper (envOfC "_law_blocks" (defScope s__law_blocks) s.heap.objs.size f cdv))) :
    PSs (cxOf (L2N.CX P w) P w K mg base N__law_blocks "_law_blocks" (defScope s__law_blocks) f cdv A outer s H E) (defBody s__law_blocks) (t__law_blocks K w sp__law_draw E) :=
  (pss_cons (ps_set (i := 2) sc__law_blocks.nd rfl (by first | exact Or.inl rfl | exact Or.inr rfl) (pe_op oAdd pe_int (dCall (E := E) cl__law_draw hr (by decide) (by rfl) (L2N.passes_call (L2N.takes_of rfl rfl rfl rfl) fun _ _ _ _ h => h) (pa_cons (pv 0) (pa_cons pe_int pa_nil)))))
    (pss_cons (ps_set (i := 3) sc__law_blocks.nd rfl (by first | exact Or.inl rfl | exact Or.inr rfl) (dCall (E := E) cl__law_draw hr (by decide) (by rfl) (L2N.passes_call (L2N.takes_of rfl rfl rfl rfl) fun _ _ _ _ h => h) (pa_cons (pv 0) (pa_cons (pv 2) pa_nil))))
    (pss_cons (ps_setLc (i := 4) (own := [("k", 5)]) rfl sc__law_blocks.nd rfl rfl (sw_true rfl rfl rfl (by decide +kernel)) (pi_seq (pv 1)) (blkOk_by (own := [("k", 5)]) (N := N__law_blocks) (sc := defScope s__law_blocks) (by decide +kernel)) (fun _ _ _ _ _ => (pg_name (i := 5) sc__law_blocks.nd rfl (by first | exact Or.inl rfl | exact Or.inr rfl))) (fun _ _ _ _ _ => pts_nil) (fun _ _ _ _ _ => pe_int))
    (pss_cons (ps_for (passes_of rfl) rfl (pi_range1 (by rfl) n_range (pa_cons (pe_callB cLen (by rfl) n_len (by decide +kernel) (pa_cons (pv 1) pa_nil)) pa_nil)) (pg_name (i := 5) sc__law_blocks.nd rfl (by first | exact Or.inl rfl | exact Or.inr rfl)) (pss_one (ps_asg (pe_op oDiv (pe_callTy cInt (by rfl) n_int (by decide +kernel) (pa_cons (pe_op oAdd (pv 5) (pv 3)) pa_nil)) (pv 2)) (pg_sub (pv 4) (pe_ix ix_seq (pv 1) (pv 5) (fun _ _ => rfl)) set_list))))
    (pss_one (ps_ret (pv 4)))))))
theorem der__law_sights {P : Program} {w : World} {K : PySem.W.Frag} {mg : Str → Option Value} {base : Heap} {f : Addr} {sp__law_blocks : Sp} {sp__law_draw : Sp} {sp__law_named : Sp} {sp__law_order : Sp} (cl__law_blocks : Cl P w K mg base 2 "_law_blocks" sp__law_blocks) (cl__law_draw : Cl P w K mg base 1 "_law_draw" sp__law_draw) (cl__law_named : Cl P w K mg base 2 "_law_named" sp__law_named) (cl__law_order : Cl P w K mg base 2 "_law_order" sp__law_order) (n_range : mg "range" = none) (cdv : Value) (A : Around) (outer : List Env) (s : Shared) (H : Hp) (E : XK) (hr : Room 2 (A.deeper (envOfC "_law_sights" (defScope s__law_sights) s.heap.objs.size f cdv))) :
    PSs (cxOf (L2N.CX P w) P w K mg base N__law_sights "_law_sights" (defScope s__law_sights) f cdv A outer s H E) (defBody s__law_sights) (t__law_sights K w sp__law_blocks sp__law_draw sp__law_named sp__law_order E) :=
  (pss_cons (ps_set (i := 3) sc__law_sights.nd rfl (by first | exact Or.inl rfl | exact Or.inr rfl) (dCall (E := E) cl__law_draw hr (by decide) (by rfl) (L2N.passes_call (L2N.takes_of rfl rfl rfl rfl) fun _ _ _ _ h => h) (pa_cons (pv 0) (pa_cons pe_int pa_nil))))
    (pss_cons (ps_set (i := 4) sc__law_sights.nd rfl (by first | exact Or.inl rfl | exact Or.inr rfl) (dCall (E := E) cl__law_order hr (by decide) (by rfl) (L2N.passes_call (L2N.takes_of rfl rfl rfl rfl) fun _ _ _ _ h => h) (pa_cons (pv 0) (pa_cons (pv 1) pa_nil))))
    (pss_cons (ps_set (i := 5) sc__law_sights.nd rfl (by first | exact Or.inl rfl | exact Or.inr rfl) (pe_lc (own := [("k", 7)]) rfl sc__law_sights.nd (pi_range1 (by rfl) n_range (pa_cons (pv 1) pa_nil)) (blkOk_by (own := [("k", 7)]) (N := N__law_sights) (sc := defScope s__law_sights) (by decide +kernel)) (fun _ _ _ _ _ => (pg_name (i := 7) sc__law_sights.nd rfl (by first | exact Or.inl rfl | exact Or.inr rfl))) (fun _ _ _ _ _ => pts_nil) (fun _ _ _ _ _ => (dCall (E := E0) cl__law_draw hr (by decide) (by rfl) passN (pa_cons (pv 0) (pa_cons pe_int pa_nil))))))
    (pss_cons (ps_set (i := 6) sc__law_sights.nd rfl (by first | exact Or.inl rfl | exact Or.inr rfl) (pe_lst pa_nil))
    (pss_cons (ps_for (passes_of rfl) rfl (pi_range1 (by rfl) n_range (pa_cons (pv 2) pa_nil)) (pg_name (i := 7) sc__law_sights.nd rfl (by first | exact Or.inl rfl | exact Or.inr rfl)) (pss_cons (ps_set (i := 8) sc__law_sights.nd rfl (by first | exact Or.inl rfl | exact Or.inr rfl) (pe_op oAdd pe_int (dCall (E := E) cl__law_draw hr (by decide) (by rfl) (L2N.passes_call (L2N.takes_of rfl rfl rfl rfl) fun _ _ _ _ h => h) (pa_cons (pv 0) (pa_cons (pe_ix ix_seq (pe_lst (pa_cons (pe_op oAdd (pv 1) pe_int) (pa_cons pe_int (pa_cons pe_int pa_nil)))) (pv 3) (fun _ _ => rfl)) pa_nil)))))
    (pss_cons (ps_set (i := 9) sc__law_sights.nd rfl (by first | exact Or.inl rfl | exact Or.inr rfl) (pe_lc (own := [("w", 10)]) rfl sc__law_sights.nd (pi_range1 (by rfl) n_range (pa_cons (pv 1) pa_nil)) (blkOk_by (own := [("w", 10)]) (N := N__law_sights) (sc := defScope s__law_sights) (by decide +kernel)) (fun _ _ _ _ _ => (pg_name (i := 10) sc__law_sights.nd rfl (by first | exact Or.inl rfl | exact Or.inr rfl))) (fun _ _ _ _ _ => pts_nil) (fun _ _ _ _ _ => (dCall (E := E0) cl__law_draw hr (by decide) (by rfl) passN (pa_cons (pv 0) (pa_cons (pv 8) pa_nil))))))
    (pss_cons (ps_if (pt_cmpR (oEq hr.units) (pv 3) pe_int (nomark _)) (pss_one (ps_set (i := 9) sc__law_sights.nd rfl (by first | exact Or.inl rfl | exact Or.inr rfl) (dCall (E := E) cl__law_blocks hr (by decide) (by rfl) (L2N.passes_call (L2N.takes_of rfl rfl rfl rfl) fun _ _ _ _ h => h) (pa_cons (pv 0) (pa_cons (pv 4) pa_nil))))) pss_nil)
    (pss_cons (ps_if (pt_cmpR (oEq hr.units) (pv 3) pe_int (nomark _)) (pss_one (ps_set (i := 9) sc__law_sights.nd rfl (by first | exact Or.inl rfl | exact Or.inr rfl) (pe_lc (own := [("w", 10)]) rfl sc__law_sights.nd (pi_range1 (by rfl) n_range (pa_cons (pv 1) pa_nil)) (blkOk_by (own := [("w", 10)]) (N := N__law_sights) (sc := defScope s__law_sights) (by decide +kernel)) (fun _ _ _ _ _ => (pg_name (i := 10) sc__law_sights.nd rfl (by first | exact Or.inl rfl | exact Or.inr rfl))) (fun _ _ _ _ _ => pts_nil) (fun _ _ _ _ _ => (pe_op oAdd (pe_op oMul pe_int (pe_ix ix_seq (pv 5) (pv 10) (fun _ _ => rfl))) (pe_ix ix_seq (pv 9) (pv 10) (fun _ _ => rfl))))))) pss_nil)
    (pss_one (ps_expr (pe_bm PySem.F.plainAttrs_list PySem.F.slot_list_append PySem.F.type_list_append mt_append (pv 6) (pa_cons (dCall (E := E) cl__law_named hr (by decide) (by rfl) (L2N.passes_call (L2N.takes_of rfl rfl rfl rfl) fun _ _ _ _ h => h) (pa_cons (pv 0) (pa_cons (pv 9) pa_nil))) pa_nil)))))))))
    (pss_one (ps_ret (pv 6))))))))
theorem der__law_handed {P : Program} {w : World} {K : PySem.W.Frag} {mg : Str → Option Value} {base : Heap} {f : Addr} {sp__law_draw : Sp} (cl__law_draw : Cl P w K mg base 1 "_law_draw" sp__law_draw) (n_list : mg "list" = none) (n_tuple : mg "tuple" = none) (cdv : Value) (A : Around) (outer : List Env) (s : Shared) (H : Hp) (E : XK) (hr : Room 1 (A.deeper (envOfC "_law_handed" (defScope s__law_handed) s.heap.objs.size f cdv))) :
    PSs (cxOf (L2N.CX P w) P w K mg base N__law_handed "_law_handed" (defScope s__law_handed) f cdv A outer s H E) (defBody s__law_handed) (t__law_handed K w sp__law_draw E) :=
  (pss_cons (ps_set (i := 2) sc__law_handed.nd rfl (by first | exact Or.inl rfl | exact Or.inr rfl) (pe_lst pa_nil))
    (pss_cons (ps_for (passes_of rfl) rfl (pi_seq (pv 1)) (pg_name (i := 3) sc__law_handed.nd rfl (by first | exact Or.inl rfl | exact Or.inr rfl)) (pss_one (ps_if (pt_cmpR (oEq hr.units) (dCall (E := E) cl__law_draw hr (by decide) (by rfl) (L2N.passes_call (L2N.takes_of rfl rfl rfl rfl) fun _ _ _ _ h => h) (pa_cons (pv 0) (pa_cons pe_int pa_nil))) pe_int (nomark _)) (pss_one (ps_expr (pe_bm PySem.F.plainAttrs_list PySem.F.slot_list_append PySem.F.type_list_append mt_append (pv 2) (pa_cons (pe_tupleOf (by rfl) n_tuple (pv 3)) pa_nil)))) (pss_one (ps_expr (pe_bm PySem.F.plainAttrs_list PySem.F.slot_list_append PySem.F.type_list_append mt_append (pv 2) (pa_cons (pe_callTy cList (by rfl) n_list (by decide +kernel) (pa_cons (pv 3) pa_nil)) pa_nil)))))))
    (pss_cons (ps_if (pt_cmpR (oEq hr.units) (dCall (E := E) cl__law_draw hr (by decide) (by rfl) (L2N.passes_call (L2N.takes_of rfl rfl rfl rfl) fun _ _ _ _ h => h) (pa_cons (pv 0) (pa_cons pe_int pa_nil))) pe_int (nomark _)) (pss_one (ps_ret (pe_tupleOf (by rfl) n_tuple (pv 2)))) pss_nil)
    (pss_one (ps_ret (pv 2))))))
theorem der__law_plain {P : Program} {w : World} {K : PySem.W.Frag} {mg : Str → Option Value} {base : Heap} {f : Addr} (n_list : mg "list" = none) (cdv : Value) (A : Around) (outer : List Env) (s : Shared) (H : Hp) (E : XK) (hr : Room 0 (A.deeper (envOfC "_law_plain" (defScope s__law_plain) s.heap.objs.size f cdv))) :
    PSs (cxOf (L2N.CX P w) P w K mg base N__law_plain "_law_plain" (defScope s__law_plain) f cdv A outer s H E) (defBody s__law_plain) (t__law_plain K w E) :=
  (pss_one (ps_ret (pe_lc (own := [("row", 1)]) rfl sc__law_plain.nd (pi_seq (pv 0)) (blkOk_by (own := [("row", 1)]) (N := N__law_plain) (sc := defScope s__law_plain) (by decide +kernel)) (fun _ _ _ _ _ => (pg_name (i := 1) sc__law_plain.nd rfl (by first | exact Or.inl rfl | exact Or.inr rfl))) (fun _ _ _ _ _ => pts_nil) (fun _ _ _ _ _ => (pe_callTy cList (by rfl) n_list (by decide +kernel) (pa_cons (pv 1) pa_nil))))))
theorem der__law_bad_sights {P : Program} {w : World} {K : PySem.W.Frag} {mg : Str → Option Value} {base : Heap} {f : Addr} {sp__law_draw : Sp} (cl__law_draw : Cl P w K mg base 1 "_law_draw" sp__law_draw) (n_len : mg "len" = none) (n_list : mg "list" = none) (n_range : mg "range" = none) (n_tuple : mg "tuple" = none) (cdv : Value) (A : Around) (outer : List Env) (s : Shared) (H : Hp) (E : XK) (hr : Room 1 (A.deeper (envOfC "_law_bad_sights" (defScope s__law_bad_sights) s.heap.objs.size f cdv))) :
    PSs (cxOf (L2N.CX P w) P w K mg base N__law_bad_sights "_law_bad_sights" (defScope s__law_bad_sights) f cdv A outer s H E) (defBody s__law_bad_sights) (t__law_bad_sights K w sp__law_draw E) :=
  (pss_cons (ps_set (i := 2) sc__law_bad_sights.nd rfl (by first | exact Or.inl rfl | exact Or.inr rfl) (dCall (E := E) cl__law_draw hr (by decide) (by rfl) (L2N.passes_call (L2N.takes_of rfl rfl rfl rfl) fun _ _ _ _ h => h) (pa_cons (pv 0) (pa_cons pe_int pa_nil))))
    (pss_cons (ps_setLc (i := 3) (own := [("sight", 6)]) rfl sc__law_bad_sights.nd rfl rfl (sw_true rfl rfl rfl (by decide +kernel)) (pi_seq (pv 1)) (blkOk_by (own := [("sight", 6)]) (N := N__law_bad_sights) (sc := defScope s__law_bad_sights) (by decide +kernel)) (fun _ _ _ _ _ => (pg_name (i := 6) sc__law_bad_sights.nd rfl (by first | exact Or.inl rfl | exact Or.inr rfl))) (fun _ _ _ _ _ => pts_nil) (fun _ _ _ _ _ => (pe_callTy cList (by rfl) n_list (by decide +kernel) (pa_cons (pv 6) pa_nil))))
    (pss_cons (ps_set (i := 4) sc__law_bad_sights.nd rfl (by first | exact Or.inl rfl | exact Or.inr rfl) (pe_callB cLen (by rfl) n_len (by decide +kernel) (pa_cons (pe_ix ix_seq (pv 1) pe_int (fun _ _ => rfl)) pa_nil)))
    (pss_cons (ps_if (pt_cmpR (oEq hr.units) (pv 2) pe_int (nomark _)) (pss_one (ps_ret (pe_tup pa_nil))) pss_nil)
    (pss_cons (ps_if (pt_cmpR (oEq hr.units) (pv 2) pe_int (nomark _)) (pss_one (ps_ret (pe_lc (own := [("k", 7)]) rfl sc__law_bad_sights.nd (pi_range1 (by rfl) n_range (pa_cons pe_int pa_nil)) (blkOk_by (own := [("k", 7)]) (N := N__law_bad_sights) (sc := defScope s__law_bad_sights) (by decide +kernel)) (fun _ _ _ _ _ => (pg_name (i := 7) sc__law_bad_sights.nd rfl (by first | exact Or.inl rfl | exact Or.inr rfl))) (fun _ _ _ _ _ => pts_nil) (fun _ _ _ _ _ => (pe_callTy cList (by rfl) n_list (by decide +kernel) (pa_cons (pe_ix ix_seq (pv 1) pe_int (fun _ _ => rfl)) pa_nil)))))) pss_nil)
    (pss_cons (ps_if (pt_cmpR (oEq hr.units) (pv 2) pe_int (nomark _)) (pss_one (ps_ret (pe_op oAdd (pe_slice sSeq (pv 3) po_none (po_some pe_int)) (pe_lst (pa_cons (pe_op oAdd (pe_callTy cList (by rfl) n_list (by decide +kernel) (pa_cons (pe_ix ix_seq (pv 1) pe_int (fun _ _ => rfl)) pa_nil)) (pe_lst (pa_cons pe_int pa_nil))) pa_nil))))) pss_nil)
    (pss_cons (ps_if (pt_cmpR (oEq hr.units) (pv 2) pe_int (nomark _)) (pss_one (ps_ret (pe_lc (own := [("sight", 6)]) rfl sc__law_bad_sights.nd (pi_seq (pv 3)) (blkOk_by (own := [("sight", 6)]) (N := N__law_bad_sights) (sc := defScope s__law_bad_sights) (by decide +kernel)) (fun _ _ _ _ _ => (pg_name (i := 6) sc__law_bad_sights.nd rfl (by first | exact Or.inl rfl | exact Or.inr rfl))) (fun _ _ _ _ _ => pts_nil) (fun _ _ _ _ _ => (pe_op oAdd (pv 6) (pe_lc (own := [("k", 7)]) rfl sc__law_bad_sights.nd (pi_range1 (by rfl) n_range (pa_cons (pe_op oSub pe_int (pv 4)) pa_nil)) (blkOk_by (own := [("k", 7)]) (N := N__law_bad_sights) (by kernel_rfl)) (fun _ _ _ _ _ => (pg_name (i := 7) sc__law_bad_sights.nd rfl (by first | exact Or.inl rfl | exact Or.inr rfl))) (fun _ _ _ _ _ => pts_nil) (fun _ _ _ _ _ => pe_int))))))) pss_nil)
    (pss_cons (ps_if (pt_cmpR (oEq hr.units) (pv 2) pe_int (nomark _)) (pss_one (ps_ret (pe_tupleOf (by rfl) n_tuple (pe_lc (own := [("sight", 6)]) rfl sc__law_bad_sights.nd (pi_seq (pv 3)) (blkOk_by (own := [("sight", 6)]) (N := N__law_bad_sights) (sc := defScope s__law_bad_sights) (by decide +kernel)) (fun _ _ _ _ _ => (pg_name (i := 6) sc__law_bad_sights.nd rfl (by first | exact Or.inl rfl | exact Or.inr rfl))) (fun _ _ _ _ _ => pts_nil) (fun _ _ _ _ _ => (pe_tup pa_nil)))))) pss_nil)
    (pss_cons (ps_if (pt_cmpR (oEq hr.units) (pv 2) pe_int (nomark _)) (pss_one (ps_ret pe_non)) pss_nil)
    (pss_cons (ps_if (pt_cmpR (oEq hr.units) (pv 2) pe_int (nomark _)) (pss_one (ps_ret (pe_tupleOf (by rfl) n_tuple (pe_op oAdd (pe_slice sSeq (pv 3) po_none (po_some pe_int)) (pe_lst (pa_cons pe_non pa_nil)))))) pss_nil)
    (pss_cons (ps_set (i := 5) sc__law_bad_sights.nd rfl (by first | exact Or.inl rfl | exact Or.inr rfl) (pe_ix ix_seq (pv 3) (dCall (E := E) cl__law_draw hr (by decide) (by rfl) (L2N.passes_call (L2N.takes_of rfl rfl rfl rfl) fun _ _ _ _ h => h) (pa_cons (pv 0) (pa_cons (pe_callB cLen (by rfl) n_len (by decide +kernel) (pa_cons (pv 3) pa_nil)) pa_nil))) (fun _ _ => rfl)))
    (pss_cons (ps_asg (pe_ix ix_seq (pe_lst (pa_cons (pe_un uNeg pe_int) (pa_cons pe_bl (pa_cons pe_non (pa_cons pe_str pa_nil))))) (pe_op oSub (pv 2) pe_int) (fun _ _ => rfl)) (pg_sub (pv 5) (dCall (E := E) cl__law_draw hr (by decide) (by rfl) (L2N.passes_call (L2N.takes_of rfl rfl rfl rfl) fun _ _ _ _ h => h) (pa_cons (pv 0) (pa_cons (pv 4) pa_nil))) set_list))
    (pss_one (ps_ret (pv 3)))))))))))))))
theorem der__law_bad_event {P : Program} {w : World} {K : PySem.W.Frag} {mg : Str → Option Value} {base : Heap} {f : Addr} {sp__law_draw : Sp} (cl__law_draw : Cl P w K mg base 1 "_law_draw" sp__law_draw) (cdv : Value) (A : Around) (outer : List Env) (s : Shared) (H : Hp) (E : XK) (hr : Room 1 (A.deeper (envOfC "_law_bad_event" (defScope s__law_bad_event) s.heap.objs.size f cdv))) :
    PSs (cxOf (L2N.CX P w) P w K mg base N__law_bad_event "_law_bad_event" (defScope s__law_bad_event) f cdv A outer s H E) (defBody s__law_bad_event) (t__law_bad_event K w sp__law_draw E) :=
  (pss_cons (ps_set (i := 2) sc__law_bad_event.nd rfl (by first | exact Or.inl rfl | exact Or.inr rfl) (dCall (E := E) cl__law_draw hr (by decide) (by rfl) (L2N.passes_call (L2N.takes_of rfl rfl rfl rfl) fun _ _ _ _ h => h) (pa_cons (pv 0) (pa_cons pe_int pa_nil))))
    (pss_cons (ps_set (i := 3) sc__law_bad_event.nd rfl (by first | exact Or.inl rfl | exact Or.inr rfl) (dCall (E := E) cl__law_draw hr (by decide) (by rfl) (L2N.passes_call (L2N.takes_of rfl rfl rfl rfl) fun _ _ _ _ h => h) (pa_cons (pv 0) (pa_cons (pv 1) pa_nil))))
    (pss_one (ps_ret (pe_ix ix_seq (pe_lst (pa_cons (pe_lst (pa_cons (pv 3) pa_nil)) (pa_cons (pe_tup (pa_cons (pv 3) (pa_cons (pv 3) pa_nil))) (pa_cons (pe_tup (pa_cons (pv 3) (pa_cons (pv 1) pa_nil))) (pa_cons (pe_tup (pa_cons (pe_un uNeg pe_int) (pa_cons (pv 3) pa_nil))) (pa_cons (pe_tup (pa_cons (pe_op oSub (pv 1) pe_int) (pa_cons pe_int pa_nil))) (pa_cons (pe_tup (pa_cons pe_bl pa_nil)) (pa_cons pe_non pa_nil)))))))) (pv 2) (fun _ _ => rfl))))))
theorem der__law_answers {P : Program} {w : World} {K : PySem.W.Frag} {mg : Str → Option Value} {base : Heap} {f : Addr} (n_len : mg "len" = none) (n_range : mg "range" = none) (n_tuple : mg "tuple" = none) (cdv : Value) (A : Around) (outer : List Env) (s : Shared) (H : Hp) (E : XK) (hr : Room 0 (A.deeper (envOfC "_law_answers" (defScope s__law_answers) s.heap.objs.size f cdv))) :
    PSs (cxOf (L2N.CX P w) P w K mg base N__law_answers "_law_answers" (defScope s__law_answers) f cdv A outer s H E) (defBody s__law_answers) (t__law_answers K w E) :=
  (pss_cons (ps_set (i := 3) sc__law_answers.nd rfl (by first | exact Or.inl rfl | exact Or.inr rfl) (pe_lst pa_nil))
    (pss_cons (ps_for (passes_of rfl) rfl (pi_range1 (by rfl) n_range (pa_cons (pe_callB cLen (by rfl) n_len (by decide +kernel) (pa_cons (pv 1) pa_nil)) pa_nil)) (pg_name (i := 4) sc__law_answers.nd rfl (by first | exact Or.inl rfl | exact Or.inr rfl)) (pss_cons (ps_set (i := 5) sc__law_answers.nd rfl (by first | exact Or.inl rfl | exact Or.inr rfl) (pe_lst pa_nil))
    (pss_cons (ps_for (passes_of rfl) rfl (pi_seq (pv 0)) (pg_name (i := 6) sc__law_answers.nd rfl (by first | exact Or.inl rfl | exact Or.inr rfl)) (pss_cons (ps_setLc (i := 7) (own := [("u", 9)]) rfl sc__law_answers.nd rfl rfl (sw_true rfl rfl rfl (by decide +kernel)) (pi_range1 (by rfl) n_range (pa_cons (pe_callB cLen (by rfl) n_len (by decide +kernel) (pa_cons (pv 1) pa_nil)) pa_nil)) (blkOk_by (own := [("u", 9)]) (N := N__law_answers) (sc := defScope s__law_answers) (by decide +kernel)) (fun _ _ _ _ _ => (pg_name (i := 9) sc__law_answers.nd rfl (by first | exact Or.inl rfl | exact Or.inr rfl))) (fun _ _ _ _ _ => (pts_one (PW.pt (pw_and (pt_cmpR (oEq hr.units) (pe_ix ix_seq (pv 6) (pv 9) (fun _ _ => rfl)) (pe_ix ix_seq (pv 6) (pv 4) (fun _ _ => rfl)) (nomark _)) (pw_and1 (pt_cmpR (oEq hr.units) (pe_ix ix_seq (pv 1) (pv 9) (fun _ _ => rfl)) (pe_ix ix_seq (pv 1) (pv 4) (fun _ _ => rfl)) (nomark _))))))) (fun _ _ _ _ _ => (pv 9)))
    (pss_cons (ps_set (i := 8) sc__law_answers.nd rfl (by first | exact Or.inl rfl | exact Or.inr rfl) (pe_callB cLen (by rfl) n_len (by decide +kernel) (pa_cons (pe_lc (own := [("u", 9)]) rfl sc__law_answers.nd (pi_seq (pv 7)) (blkOk_by (own := [("u", 9)]) (N := N__law_answers) (sc := defScope s__law_answers) (by decide +kernel)) (fun _ _ _ _ _ => (pg_name (i := 9) sc__law_answers.nd rfl (by first | exact Or.inl rfl | exact Or.inr rfl))) (fun _ _ _ _ _ => (pts_one (pt_cmpR (oIn (hu1 hr)) (pv 9) (pv 2) (by rfl)))) (fun _ _ _ _ _ => (pv 9))) pa_nil)))
    (pss_one (ps_if (PW.pt (pw_or (pt_cmpR (oEq hr.units) (pv 8) pe_int (nomark _)) (pw_or1 (pt_cmpR (oEq hr.units) (pv 8) (pe_callB cLen (by rfl) n_len (by decide +kernel) (pa_cons (pv 7) pa_nil)) (nomark _))))) (pss_one (ps_expr (pe_bm PySem.F.plainAttrs_list PySem.F.slot_list_append PySem.F.type_list_append mt_append (pv 5) (pa_cons pe_int pa_nil)))) (pss_one (ps_expr (pe_bm PySem.F.plainAttrs_list PySem.F.slot_list_append PySem.F.type_list_append mt_append (pv 5) (pa_cons pe_int pa_nil)))))))))
    (pss_one (ps_expr (pe_bm PySem.F.plainAttrs_list PySem.F.slot_list_append PySem.F.type_list_append mt_append (pv 3) (pa_cons (pe_tupleOf (by rfl) n_tuple (pv 5)) pa_nil)))))))
    (pss_one (ps_ret (pv 3)))))
theorem der__law_least {P : Program} {w : World} {K : PySem.W.Frag} {mg : Str → Option Value} {base : Heap} {f : Addr} (n_len : mg "len" = none) (n_range : mg "range" = none) (cdv : Value) (A : Around) (outer : List Env) (s : Shared) (H : Hp) (E : XK) (hr : Room 0 (A.deeper (envOfC "_law_least" (defScope s__law_least) s.heap.objs.size f cdv))) :
    PSs (cxOf (L2N.CX P w) P w K mg base N__law_least "_law_least" (defScope s__law_least) f cdv A outer s H E) (defBody s__law_least) (t__law_least K w E) :=
  (pss_cons (ps_set (i := 2) sc__law_least.nd rfl (by first | exact Or.inl rfl | exact Or.inr rfl) (pe_lst pa_nil))
    (pss_cons (ps_for (passes_of rfl) rfl (pi_range1 (by rfl) n_range (pa_cons (pe_callB cLen (by rfl) n_len (by decide +kernel) (pa_cons (pv 0) pa_nil)) pa_nil)) (pg_name (i := 3) sc__law_least.nd rfl (by first | exact Or.inl rfl | exact Or.inr rfl)) (pss_cons (ps_setLc (i := 4) (own := [("u", 5)]) rfl sc__law_least.nd rfl rfl (sw_true rfl rfl rfl (by decide +kernel)) (pi_range1 (by rfl) n_range (pa_cons (pe_op oAdd (pv 3) pe_int) pa_nil)) (blkOk_by (own := [("u", 5)]) (N := N__law_least) (sc := defScope s__law_least) (by decide +kernel)) (fun _ _ _ _ _ => (pg_name (i := 5) sc__law_least.nd rfl (by first | exact Or.inl rfl | exact Or.inr rfl))) (fun _ _ _ _ _ => (pts_one (PW.pt (pw_and (pt_cmpR (oEq hr.units) (pe_ix ix_seq (pv 0) (pv 5) (fun _ _ => rfl)) (pe_ix ix_seq (pv 0) (pv 3) (fun _ _ => rfl)) (nomark _)) (pw_and1 (pt_cmpR (oEq hr.units) (pe_ix ix_seq (pv 1) (pv 5) (fun _ _ => rfl)) (pe_ix ix_seq (pv 1) (pv 3) (fun _ _ => rfl)) (nomark _))))))) (fun _ _ _ _ _ => (pv 5)))
    (pss_one (ps_expr (pe_bm PySem.F.plainAttrs_list PySem.F.slot_list_append PySem.F.type_list_append mt_append (pv 2) (pa_cons (pe_ix ix_seq (pv 4) pe_int (fun _ _ => rfl)) pa_nil))))))
    (pss_one (ps_ret (pv 2)))))
theorem der__law_rounds {P : Program} {w : World} {K : PySem.W.Frag} {mg : Str → Option Value} {base : Heap} {f : Addr} {sp__law_answers : Sp} {sp__law_least : Sp} (cl__law_answers : Cl P w K mg base 1 "_law_answers" sp__law_answers) (cl__law_least : Cl P w K mg base 1 "_law_least" sp__law_least) (n_range : mg "range" = none) (cdv : Value) (A : Around) (outer : List Env) (s : Shared) (H : Hp) (E : XK) (hr : Room 1 (A.deeper (envOfC "_law_rounds" (defScope s__law_rounds) s.heap.objs.size f cdv))) :
    PSs (cxOf (L2N.CX P w) P w K mg base N__law_rounds "_law_rounds" (defScope s__law_rounds) f cdv A outer s H E) (defBody s__law_rounds) (t__law_rounds K w sp__law_answers sp__law_least E) :=
  (pss_cons (ps_set (i := 2) sc__law_rounds.nd rfl (by first | exact Or.inl rfl | exact Or.inr rfl) (pe_lc (own := [("w", 9)]) rfl sc__law_rounds.nd (pi_seq (pe_ix ix_seq (pv 0) pe_int (fun _ _ => rfl))) (blkOk_by (own := [("w", 9)]) (N := N__law_rounds) (sc := defScope s__law_rounds) (by decide +kernel)) (fun _ _ _ _ _ => (pg_name (i := 9) sc__law_rounds.nd rfl (by first | exact Or.inl rfl | exact Or.inr rfl))) (fun _ _ _ _ _ => pts_nil) (fun _ _ _ _ _ => pe_int)))
    (pss_cons (ps_set (i := 3) sc__law_rounds.nd rfl (by first | exact Or.inl rfl | exact Or.inr rfl) (pe_lst pa_nil))
    (pss_cons (ps_set (i := 4) sc__law_rounds.nd rfl (by first | exact Or.inl rfl | exact Or.inr rfl) pe_bl)
    (pss_cons (ps_for (passes_of rfl) rfl (pi_range1 (by rfl) n_range (pa_cons pe_int pa_nil)) (pg_name (i := 5) sc__law_rounds.nd rfl (by first | exact Or.inl rfl | exact Or.inr rfl)) (pss_one (ps_if (pt_val (pv 4)) (pss_cons (ps_set (i := 6) sc__law_rounds.nd rfl (by first | exact Or.inl rfl | exact Or.inr rfl) (dCall (E := E) cl__law_answers hr (by decide) (by rfl) (L2N.passes_call (L2N.takes_of rfl rfl rfl rfl) fun _ _ _ _ h => h) (pa_cons (pv 0) (pa_cons (pv 2) (pa_cons (pv 1) pa_nil)))))
    (pss_cons (ps_expr (pe_bm PySem.F.plainAttrs_list PySem.F.slot_list_append PySem.F.type_list_append mt_append (pv 3) (pa_cons (pv 6) pa_nil)))
    (pss_cons (ps_set (i := 7) sc__law_rounds.nd rfl (by first | exact Or.inl rfl | exact Or.inr rfl) (dCall (E := E) cl__law_least hr (by decide) (by rfl) (L2N.passes_call (L2N.takes_of rfl rfl rfl rfl) fun _ _ _ _ h => h) (pa_cons (pv 2) (pa_cons (pv 6) pa_nil))))
    (pss_cons (ps_setLc (i := 8) (own := [("sight", 10)]) rfl sc__law_rounds.nd rfl rfl (sw_true rfl rfl rfl (by decide +kernel)) (pi_seq (pv 0)) (blkOk_by (own := [("sight", 10)]) (N := N__law_rounds) (sc := defScope s__law_rounds) (by decide +kernel)) (fun _ _ _ _ _ => (pg_name (i := 10) sc__law_rounds.nd rfl (by first | exact Or.inl rfl | exact Or.inr rfl))) (fun _ _ _ _ _ => pts_nil) (fun _ _ _ _ _ => (dCall (E := E0) cl__law_least hr (by decide) (by rfl) passN (pa_cons (pv 10) (pa_cons (pv 2) pa_nil)))))
    (pss_cons (ps_set (i := 4) sc__law_rounds.nd rfl (by first | exact Or.inl rfl | exact Or.inr rfl) (pe_cmpR (oNe hr.units) (pv 8) (pe_lc (own := [("sight", 10)]) rfl sc__law_rounds.nd (pi_seq (pv 0)) (blkOk_by (own := [("sight", 10)]) (N := N__law_rounds) (sc := defScope s__law_rounds) (by decide +kernel)) (fun _ _ _ _ _ => (pg_name (i := 10) sc__law_rounds.nd rfl (by first | exact Or.inl rfl | exact Or.inr rfl))) (fun _ _ _ _ _ => pts_nil) (fun _ _ _ _ _ => (dCall (E := E0) cl__law_least hr (by decide) (by rfl) passN (pa_cons (pv 10) (pa_cons (pv 7) pa_nil))))) (nomark _)))
    (pss_one (ps_set (i := 2) sc__law_rounds.nd rfl (by first | exact Or.inl rfl | exact Or.inr rfl) (pv 7)))))))) pss_nil)))
    (pss_one (ps_ret (pe_tup (pa_cons (pv 3) (pa_cons (pv 2) pa_nil)))))))))
theorem der__law_are_rounds {P : Program} {w : World} {K : PySem.W.Frag} {mg : Str → Option Value} {base : Heap} {f : Addr} {sp__law_is_lot : Sp} (cl__law_is_lot : Cl P w K mg base 2 "_law_is_lot" sp__law_is_lot) (n_isinstance : mg "isinstance" = none) (n_len : mg "len" = none) (n_range : mg "range" = none) (n_tuple : mg "tuple" = none) (cdv : Value) (A : Around) (outer : List Env) (s : Shared) (H : Hp) (E : XK) (hr : Room 2 (A.deeper (envOfC "_law_are_rounds" (defScope s__law_are_rounds) s.heap.objs.size f cdv))) :
    PSs (cxOf (L2N.CX P w) P w K mg base N__law_are_rounds "_law_are_rounds" (defScope s__law_are_rounds) f cdv A outer s H E) (defBody s__law_are_rounds) (t__law_are_rounds K w sp__law_is_lot E) :=
  (pss_cons (ps_if (PW.pt (pw_or (pt_not (pt_val (pe_callB call_isi (by rfl) n_isinstance (by decide +kernel) (pa_cons (pv 0) (pa_cons (pe_bltn (v := .ty "tuple") (by rfl) n_tuple (by decide +kernel) rfl) pa_nil))))) (pw_or1 (pt_cmpR (oNe hr.units) (pe_callB cLen (by rfl) n_len (by decide +kernel) (pa_cons (pv 0) pa_nil)) (pe_callB cLen (by rfl) n_len (by decide +kernel) (pa_cons (pv 1) pa_nil)) (nomark _))))) (pss_one (ps_ret pe_bl)) pss_nil)
    (pss_cons (ps_setLc (i := 3) (own := [("k", 4)]) rfl sc__law_are_rounds.nd rfl rfl (sw_true rfl rfl rfl (by decide +kernel)) (pi_range1 (by rfl) n_range (pa_cons (pe_callB cLen (by rfl) n_len (by decide +kernel) (pa_cons (pv 1) pa_nil)) pa_nil)) (blkOk_by (own := [("k", 4)]) (N := N__law_are_rounds) (sc := defScope s__law_are_rounds) (by decide +kernel)) (fun _ _ _ _ _ => (pg_name (i := 4) sc__law_are_rounds.nd rfl (by first | exact Or.inl rfl | exact Or.inr rfl))) (fun _ _ _ _ _ => (pts_one (pt_not (pt_val (dCall (E := E0) cl__law_is_lot hr (by decide) (by rfl) passN (pa_cons (pe_ix ix_seq (pv 0) (pv 4) (fun _ _ => rfl)) (pa_cons (pe_ix ix_seq (pe_ix ix_seq (pv 1) (pv 4) (fun _ _ => rfl)) (pv 2) (fun _ _ => rfl)) pa_nil))))))) (fun _ _ _ _ _ => (pv 4)))
    (pss_one (ps_ret (pe_cmpR (oEq hr.units) (pv 3) (pe_lst pa_nil) (nomark _))))))
theorem der__law_are_sights {P : Program} {w : World} {K : PySem.W.Frag} {mg : Str → Option Value} {base : Heap} {f : Addr} {sp__law_is_lot : Sp} (cl__law_is_lot : Cl P w K mg base 2 "_law_is_lot" sp__law_is_lot) (n_isinstance : mg "isinstance" = none) (n_len : mg "len" = none) (n_range : mg "range" = none) (n_tuple : mg "tuple" = none) (cdv : Value) (A : Around) (outer : List Env) (s : Shared) (H : Hp) (E : XK) (hr : Room 2 (A.deeper (envOfC "_law_are_sights" (defScope s__law_are_sights) s.heap.objs.size f cdv))) :
    PSs (cxOf (L2N.CX P w) P w K mg base N__law_are_sights "_law_are_sights" (defScope s__law_are_sights) f cdv A outer s H E) (defBody s__law_are_sights) (t__law_are_sights K w sp__law_is_lot E) :=
  (pss_cons (ps_if (PW.pt (pw_or (pt_not (pt_val (pe_callB call_isi (by rfl) n_isinstance (by decide +kernel) (pa_cons (pv 0) (pa_cons (pe_bltn (v := .ty "tuple") (by rfl) n_tuple (by decide +kernel) rfl) pa_nil))))) (pw_or1 (pt_cmpR (oNe hr.units) (pe_callB cLen (by rfl) n_len (by decide +kernel) (pa_cons (pv 0) pa_nil)) (pe_callB cLen (by rfl) n_len (by decide +kernel) (pa_cons (pv 1) pa_nil)) (nomark _))))) (pss_one (ps_ret pe_bl)) pss_nil)
    (pss_cons (ps_setLc (i := 2) (own := [("k", 3)]) rfl sc__law_are_sights.nd rfl rfl (sw_true rfl rfl rfl (by decide +kernel)) (pi_range1 (by rfl) n_range (pa_cons (pe_callB cLen (by rfl) n_len (by decide +kernel) (pa_cons (pv 1) pa_nil)) pa_nil)) (blkOk_by (own := [("k", 3)]) (N := N__law_are_sights) (sc := defScope s__law_are_sights) (by decide +kernel)) (fun _ _ _ _ _ => (pg_name (i := 3) sc__law_are_sights.nd rfl (by first | exact Or.inl rfl | exact Or.inr rfl))) (fun _ _ _ _ _ => (pts_one (pt_not (pt_val (dCall (E := E0) cl__law_is_lot hr (by decide) (by rfl) passN (pa_cons (pe_ix ix_seq (pv 0) (pv 3) (fun _ _ => rfl)) (pa_cons (pe_ix ix_seq (pv 1) (pv 3) (fun _ _ => rfl)) pa_nil))))))) (fun _ _ _ _ _ => (pv 3)))
    (pss_one (ps_ret (pe_cmpR (oEq hr.units) (pv 2) (pe_lst pa_nil) (nomark _))))))
theorem der__law_ladder {P : Program} {w : World} {K : PySem.W.Frag} {mg : Str → Option Value} {base : Heap} {f : Addr} {sp__law_draw : Sp} {sp__law_named : Sp} {sp__law_order : Sp} (cl__law_draw : Cl P w K mg base 1 "_law_draw" sp__law_draw) (cl__law_named : Cl P w K mg base 2 "_law_named" sp__law_named) (cl__law_order : Cl P w K mg base 2 "_law_order" sp__law_order) (n_int : mg "int" = none) (n_range : mg "range" = none) (n_sorted : mg "sorted" = none) (n_tuple : mg "tuple" = none) (cdv : Value) (A : Around) (outer : List Env) (s : Shared) (H : Hp) (E : XK) (hr : Room 2 (A.deeper (envOfC "_law_ladder" (defScope s__law_ladder) s.heap.objs.size f cdv))) :
    PSs (cxOf (L2N.CX P w) P w K mg base N__law_ladder "_law_ladder" (defScope s__law_ladder) f cdv A outer s H E) (defBody s__law_ladder) (t__law_ladder K w sp__law_draw sp__law_named sp__law_order E) :=
  (pss_cons (ps_set (i := 3) sc__law_ladder.nd rfl (by first | exact Or.inl rfl | exact Or.inr rfl) (dCall (E := E) cl__law_order hr (by decide) (by rfl) (L2N.passes_call (L2N.takes_of rfl rfl rfl rfl) fun _ _ _ _ h => h) (pa_cons (pv 0) (pa_cons (pv 1) pa_nil))))
    (pss_cons (ps_set (i := 4) sc__law_ladder.nd rfl (by first | exact Or.inl rfl | exact Or.inr rfl) (dCall (E := E) cl__law_draw hr (by decide) (by rfl) (L2N.passes_call (L2N.takes_of rfl rfl rfl rfl) fun _ _ _ _ h => h) (pa_cons (pv 0) (pa_cons pe_int pa_nil))))
    (pss_cons (ps_set (i := 5) sc__law_ladder.nd rfl (by first | exact Or.inl rfl | exact Or.inr rfl) (dCall (E := E) cl__law_draw hr (by decide) (by rfl) (L2N.passes_call (L2N.takes_of rfl rfl rfl rfl) fun _ _ _ _ h => h) (pa_cons (pv 0) (pa_cons pe_int pa_nil))))
    (pss_cons (ps_set (i := 6) sc__law_ladder.nd rfl (by first | exact Or.inl rfl | exact Or.inr rfl) (pe_lst pa_nil))
    (pss_cons (ps_for (passes_of rfl) rfl (pi_range1 (by rfl) n_range (pa_cons (pv 2) pa_nil)) (pg_name (i := 7) sc__law_ladder.nd rfl (by first | exact Or.inl rfl | exact Or.inr rfl)) (pss_cons (ps_setLc (i := 8) (own := [("w", 13)]) rfl sc__law_ladder.nd rfl rfl (sw_true rfl rfl rfl (by decide +kernel)) (pi_range1 (by rfl) n_range (pa_cons (pv 1) pa_nil)) (blkOk_by (own := [("w", 13)]) (N := N__law_ladder) (sc := defScope s__law_ladder) (by decide +kernel)) (fun _ _ _ _ _ => (pg_name (i := 13) sc__law_ladder.nd rfl (by first | exact Or.inl rfl | exact Or.inr rfl))) (fun _ _ _ _ _ => pts_nil) (fun _ _ _ _ _ => pe_int))
    (pss_cons (ps_set (i := 9) sc__law_ladder.nd rfl (by first | exact Or.inl rfl | exact Or.inr rfl) pe_int)
    (pss_cons (ps_if (pt_cmpR oGt (pv 7) pe_int (nomark _)) (pss_one (ps_set (i := 9) sc__law_ladder.nd rfl (by first | exact Or.inl rfl | exact Or.inr rfl) (dCall (E := E) cl__law_draw hr (by decide) (by rfl) (L2N.passes_call (L2N.takes_of rfl rfl rfl rfl) fun _ _ _ _ h => h) (pa_cons (pv 0) (pa_cons pe_int pa_nil))))) pss_nil)
    (pss_cons (ps_for (passes_of rfl) rfl (pi_range1 (by rfl) n_range (pa_cons (pv 1) pa_nil)) (pg_name (i := 10) sc__law_ladder.nd rfl (by first | exact Or.inl rfl | exact Or.inr rfl)) (pss_cons (ps_set (i := 11) sc__law_ladder.nd rfl (by first | exact Or.inl rfl | exact Or.inr rfl) (pv 10))
    (pss_cons (ps_if (PW.pt (pw_and (pt_cmpR (oEq hr.units) (pv 4) pe_int (nomark _)) (pw_and (pt_cmpR (oEq hr.units) (pv 10) (pe_op oSub (pv 1) pe_int) (nomark _)) (pw_and1 (pt_cmpR oGt (pv 10) pe_int (nomark _)))))) (pss_one (ps_set (i := 11) sc__law_ladder.nd rfl (by first | exact Or.inl rfl | exact Or.inr rfl) (pe_op oSub (pv 10) pe_int))) pss_nil)
    (pss_one (ps_if (pt_cmpR (oEq hr.units) (pv 9) pe_int (nomark _)) (pss_one (ps_asg (pe_op oDiv (pe_callTy cInt (by rfl) n_int (by decide +kernel) (pa_cons (pe_op oAdd (pe_op oAdd (pv 11) (pv 7)) (pv 5)) pa_nil)) pe_int) (pg_sub (pv 8) (pe_ix ix_seq (pv 3) (pv 10) (fun _ _ => rfl)) set_list))) pss_nil)))))
    (pss_one (ps_expr (pe_bm PySem.F.plainAttrs_list PySem.F.slot_list_append PySem.F.type_list_append mt_append (pv 6) (pa_cons (dCall (E := E) cl__law_named hr (by decide) (by rfl) (L2N.passes_call (L2N.takes_of rfl rfl rfl rfl) fun _ _ _ _ h => h) (pa_cons (pv 0) (pa_cons (pv 8) pa_nil))) pa_nil)))))))))
    (pss_cons (ps_setLc (i := 12) (own := [("at", 10)]) rfl sc__law_ladder.nd rfl rfl (sw_true rfl rfl rfl (by decide +kernel)) (pi_range1 (by rfl) n_range (pa_cons (pv 1) pa_nil)) (blkOk_by (own := [("at", 10)]) (N := N__law_ladder) (sc := defScope s__law_ladder) (by decide +kernel)) (fun _ _ _ _ _ => (pg_name (i := 10) sc__law_ladder.nd rfl (by first | exact Or.inl rfl | exact Or.inr rfl))) (fun _ _ _ _ _ => (pts_one (pt_cmpR (oEq hr.units) (pe_op oMod (pe_callTy cInt (by rfl) n_int (by decide +kernel) (pa_cons (pv 10) pa_nil)) pe_int) pe_int (nomark _)))) (fun _ _ _ _ _ => (pe_ix ix_seq (pv 3) (pv 10) (fun _ _ => rfl))))
    (pss_one (ps_ret (pe_tup (pa_cons (pv 6) (pa_cons (pe_tupleOf (by rfl) n_tuple (pe_callB cSorted (by rfl) n_sorted (by decide +kernel) (pa_cons (pv 12) pa_nil))) pa_nil)))))))))))
theorem der__law_event {P : Program} {w : World} {K : PySem.W.Frag} {mg : Str → Option Value} {base : Heap} {f : Addr} {sp__law_draw : Sp} (cl__law_draw : Cl P w K mg base 1 "_law_draw" sp__law_draw) (n_range : mg "range" = none) (n_tuple : mg "tuple" = none) (cdv : Value) (A : Around) (outer : List Env) (s : Shared) (H : Hp) (E : XK) (hr : Room 1 (A.deeper (envOfC "_law_event" (defScope s__law_event) s.heap.objs.size f cdv))) :
    PSs (cxOf (L2N.CX P w) P w K mg base N__law_event "_law_event" (defScope s__law_event) f cdv A outer s H E) (defBody s__law_event) (t__law_event K w sp__law_draw E) :=
  (pss_cons (ps_set (i := 2) sc__law_event.nd rfl (by first | exact Or.inl rfl | exact Or.inr rfl) (dCall (E := E) cl__law_draw hr (by decide) (by rfl) (L2N.passes_call (L2N.takes_of rfl rfl rfl rfl) fun _ _ _ _ h => h) (pa_cons (pv 0) (pa_cons pe_int pa_nil))))
    (pss_cons (ps_if (pt_cmpR (oEq hr.units) (pv 2) pe_int (nomark _)) (pss_one (ps_ret (pe_tup pa_nil))) pss_nil)
    (pss_cons (ps_if (pt_cmpR (oEq hr.units) (pv 2) pe_int (nomark _)) (pss_one (ps_ret (pe_tupRg rfl (by rfl) n_tuple (prg_1 (by rfl) n_range (pv 1))))) pss_nil)
    (pss_one (ps_ret (pe_tupleOf (by rfl) n_tuple (pe_lc (own := [("w", 3)]) rfl sc__law_event.nd (pi_range1 (by rfl) n_range (pa_cons (pv 1) pa_nil)) (blkOk_by (own := [("w", 3)]) (N := N__law_event) (sc := defScope s__law_event) (by decide +kernel)) (fun _ _ _ _ _ => (pg_name (i := 3) sc__law_event.nd rfl (by first | exact Or.inl rfl | exact Or.inr rfl))) (fun _ _ _ _ _ => (pts_one (pt_cmpR (oEq hr.units) (dCall (E := E0) cl__law_draw hr (by decide) (by rfl) passN (pa_cons (pv 0) (pa_cons pe_int pa_nil))) pe_int (nomark _)))) (fun _ _ _ _ _ => (pv 3)))))))))
theorem der__law_others {P : Program} {w : World} {K : PySem.W.Frag} {mg : Str → Option Value} {base : Heap} {f : Addr} (n_range : mg "range" = none) (n_tuple : mg "tuple" = none) (cdv : Value) (A : Around) (outer : List Env) (s : Shared) (H : Hp) (E : XK) (hr : Room 0 (A.deeper (envOfC "_law_others" (defScope s__law_others) s.heap.objs.size f cdv))) :
    PSs (cxOf (L2N.CX P w) P w K mg base N__law_others "_law_others" (defScope s__law_others) f cdv A outer s H E) (defBody s__law_others) (t__law_others K w E) :=
  (pss_one (ps_ret (pe_tupleOf (by rfl) n_tuple (pe_lc (own := [("w", 2)]) rfl sc__law_others.nd (pi_range1 (by rfl) n_range (pa_cons (pv 0) pa_nil)) (blkOk_by (own := [("w", 2)]) (N := N__law_others) (sc := defScope s__law_others) (by decide +kernel)) (fun _ _ _ _ _ => (pg_name (i := 2) sc__law_others.nd rfl (by first | exact Or.inl rfl | exact Or.inr rfl))) (fun _ _ _ _ _ => (pts_one (pt_cmpR (oNi (hu1 hr)) (pv 2) (pv 1) (by rfl)))) (fun _ _ _ _ _ => (pv 2))))))
theorem der__law_tells {P : Program} {w : World} {K : PySem.W.Frag} {mg : Str → Option Value} {base : Heap} {f : Addr} {sp__law_are_rounds : Sp} {sp__law_are_sights : Sp} {sp__law_least : Sp} {sp__law_others : Sp} {sp__law_plain : Sp} {sp__law_rounds : Sp} {sp_asked : Sp} {sp_parted : Sp} (cl__law_are_rounds : Cl P w K mg base 3 "_law_are_rounds" sp__law_are_rounds) (cl__law_are_sights : Cl P w K mg base 3 "_law_are_sights" sp__law_are_sights) (cl__law_least : Cl P w K mg base 1 "_law_least" sp__law_least) (cl__law_others : Cl P w K mg base 1 "_law_others" sp__law_others) (cl__law_plain : Cl P w K mg base 1 "_law_plain" sp__law_plain) (cl__law_rounds : Cl P w K mg base 2 "_law_rounds" sp__law_rounds) (cl_asked : Cl P w K mg base 5 "asked" sp_asked) (cl_parted : Cl P w K mg base 5 "parted" sp_parted) (n_len : mg "len" = none) (cdv : Value) (A : Around) (outer : List Env) (s : Shared) (H : Hp) (E : XK) (hr : Room 5 (A.deeper (envOfC "_law_tells" (defScope s__law_tells) s.heap.objs.size f cdv))) :
    PSs (cxOf (L2N.CX P w) P w K mg base N__law_tells "_law_tells" (defScope s__law_tells) f cdv A outer s H E) (defBody s__law_tells) (t__law_tells K w sp__law_are_rounds sp__law_are_sights sp__law_least sp__law_others sp__law_plain sp__law_rounds sp_asked sp_parted E) :=
  (pss_cons (ps_set (i := 5) sc__law_tells.nd rfl (by first | exact Or.inl rfl | exact Or.inr rfl) (dCall (E := E) cl__law_rounds hr (by decide) (by rfl) (L2N.passes_call (L2N.takes_of rfl rfl rfl rfl) fun _ _ _ _ h => h) (pa_cons (pv 1) (pa_cons (pv 2) pa_nil))))
    (pss_cons (ps_set (i := 6) sc__law_tells.nd rfl (by first | exact Or.inl rfl | exact Or.inr rfl) (dCall (E := E) cl__law_others hr (by decide) (by rfl) (L2N.passes_call (L2N.takes_of rfl rfl rfl rfl) fun _ _ _ _ h => h) (pa_cons (pe_callB cLen (by rfl) n_len (by decide +kernel) (pa_cons (pe_ix ix_seq (pv 1) pe_int (fun _ _ => rfl)) pa_nil)) (pa_cons (pv 2) pa_nil))))
    (pss_cons (ps_if (pt_not (pt_val (dCall (E := E) cl__law_are_rounds hr (by decide) (by rfl) (L2N.passes_call (L2N.takes_of rfl rfl rfl rfl) fun _ _ _ _ h => h) (pa_cons (dCall (E := E) cl_asked hr (by decide) (by rfl) (L2N.passes_call (L2N.takes_of rfl rfl rfl rfl) fun _ _ _ _ h => h) (pa_cons (pv 0) (pa_cons (pv 2) (pa_cons (pv 3) pa_nil)))) (pa_cons (pe_ix ix_seq (pv 5) pe_int (fun _ _ => rfl)) (pa_cons (pv 3) pa_nil)))))) (pss_one (ps_ret pe_bl)) pss_nil)
    (pss_cons (ps_if (pt_not (pt_val (dCall (E := E) cl__law_are_rounds hr (by decide) (by rfl) (L2N.passes_call (L2N.takes_of rfl rfl rfl rfl) fun _ _ _ _ h => h) (pa_cons (dCall (E := E) cl_asked hr (by decide) (by rfl) (L2N.passes_call (L2N.takes_of rfl rfl rfl rfl) fun _ _ _ _ h => h) (pa_cons (pv 0) (pa_cons (pv 6) (pa_cons (pv 4) pa_nil)))) (pa_cons (pe_ix ix_seq (pv 5) pe_int (fun _ _ => rfl)) (pa_cons (pv 4) pa_nil)))))) (pss_one (ps_ret pe_bl)) pss_nil)
    (pss_cons (ps_if (pt_not (pt_val (dCall (E := E) cl__law_are_rounds hr (by decide) (by rfl) (L2N.passes_call (L2N.takes_of rfl rfl rfl rfl) fun _ _ _ _ h => h) (pa_cons (dCall (E := E) cl_asked hr (by decide) (by rfl) (L2N.passes_call (L2N.takes_of rfl rfl rfl rfl) fun _ _ _ _ h => h) (pa_cons (pv 0) (pa_cons (pv 2) (pa_cons (pv 4) pa_nil)))) (pa_cons (pe_ix ix_seq (pv 5) pe_int (fun _ _ => rfl)) (pa_cons (pv 4) pa_nil)))))) (pss_one (ps_ret pe_bl)) pss_nil)
    (pss_cons (ps_setLc (i := 7) (own := [("sight", 9)]) rfl sc__law_tells.nd rfl rfl (sw_true rfl rfl rfl (by decide +kernel)) (pi_seq (pv 1)) (blkOk_by (own := [("sight", 9)]) (N := N__law_tells) (sc := defScope s__law_tells) (by decide +kernel)) (fun _ _ _ _ _ => (pg_name (i := 9) sc__law_tells.nd rfl (by first | exact Or.inl rfl | exact Or.inr rfl))) (fun _ _ _ _ _ => pts_nil) (fun _ _ _ _ _ => (dCall (E := E0) cl__law_least hr (by decide) (by rfl) passN (pa_cons (pv 9) (pa_cons (pe_ix ix_seq (pv 5) pe_int (fun _ _ => rfl)) pa_nil)))))
    (pss_cons (ps_set (i := 8) sc__law_tells.nd rfl (by first | exact Or.inl rfl | exact Or.inr rfl) (dCall (E := E) cl_parted hr (by decide) (by rfl) (L2N.passes_call (L2N.takes_of rfl rfl rfl rfl) fun _ _ _ _ h => h) (pa_cons (pv 0) (pa_cons (pv 2) pa_nil))))
    (pss_cons (ps_if (pt_not (pt_val (dCall (E := E) cl__law_are_sights hr (by decide) (by rfl) (L2N.passes_call (L2N.takes_of rfl rfl rfl rfl) fun _ _ _ _ h => h) (pa_cons (pv 8) (pa_cons (pv 7) pa_nil))))) (pss_one (ps_ret pe_bl)) pss_nil)
    (pss_cons (ps_if (pt_not (pt_val (dCall (E := E) cl__law_are_rounds hr (by decide) (by rfl) (L2N.passes_call (L2N.takes_of rfl rfl rfl rfl) fun _ _ _ _ h => h) (pa_cons (dCall (E := E) cl_asked hr (by decide) (by rfl) (L2N.passes_call (L2N.takes_of rfl rfl rfl rfl) fun _ _ _ _ h => h) (pa_cons (pv 8) (pa_cons (pv 2) (pa_cons (pv 3) pa_nil)))) (pa_cons (pe_lst (pa_cons (pe_ix ix_seq (pe_ix ix_seq (pv 5) pe_int (fun _ _ => rfl)) (pe_un uNeg pe_int) (fun _ _ => rfl)) pa_nil)) (pa_cons (pv 3) pa_nil)))))) (pss_one (ps_ret pe_bl)) pss_nil)
    (pss_cons (ps_if (pt_not (pt_val (dCall (E := E) cl__law_are_sights hr (by decide) (by rfl) (L2N.passes_call (L2N.takes_of rfl rfl rfl rfl) fun _ _ _ _ h => h) (pa_cons (dCall (E := E) cl_parted hr (by decide) (by rfl) (L2N.passes_call (L2N.takes_of rfl rfl rfl rfl) fun _ _ _ _ h => h) (pa_cons (pv 8) (pa_cons (pv 6) pa_nil))) (pa_cons (pv 7) pa_nil))))) (pss_one (ps_ret pe_bl)) pss_nil)
    (pss_one (ps_ret (pe_cmpR (oEq hr.units) (dCall (E := E) cl__law_plain hr (by decide) (by rfl) (L2N.passes_call (L2N.takes_of rfl rfl rfl rfl) fun _ _ _ _ h => h) (pa_cons (pv 0) pa_nil)) (pv 1) (nomark _))))))))))))))
theorem der__law_refusal {P : Program} {w : World} {K : PySem.W.Frag} {mg : Str → Option Value} {base : Heap} {f : Addr} {C_BadNumber : Addr} {C_BadRow : Addr} {C_BadWorlds : Addr} {C_JointError : Addr} {C_NotThere : Addr} {sp_asked : Sp} {sp_parted : Sp} (cl_asked : Cl P w K mg base 5 "asked" sp_asked) (cl_parted : Cl P w K mg base 5 "parted" sp_parted) (g_BadNumber : mg "BadNumber" = some (.ref C_BadNumber)) (g_BadRow : mg "BadRow" = some (.ref C_BadRow)) (g_BadWorlds : mg "BadWorlds" = some (.ref C_BadWorlds)) (g_JointError : mg "JointError" = some (.ref C_JointError)) (g_NotThere : mg "NotThere" = some (.ref C_NotThere)) (n_ValueError : mg "ValueError" = none) (n_isinstance : mg "isinstance" = none) (cdv : Value) (A : Around) (outer : List Env) (s : Shared) (H : Hp) (E : XK) (hr : Room 5 (A.deeper (envOfC "_law_refusal" (defScope s__law_refusal) s.heap.objs.size f cdv))) :
    PSs (cxOf (L2N.CX P w) P w K mg base N__law_refusal "_law_refusal" (defScope s__law_refusal) f cdv A outer s H E) (defBody s__law_refusal) (t__law_refusal K w C_BadNumber C_BadRow C_BadWorlds C_JointError C_NotThere sp_asked sp_parted E) :=
  (pss_cons (ps_try_cls rfl rfl (L2N.takes_of rfl rfl rfl rfl) (fun W pn xe tk hown =>
    (pss_one (ps_if (pt_cmpR (oEq hr.units) (pv 0) pe_int (nomark _)) (pss_one (ps_expr (dCallS cl_asked hr (by decide) (by rfl) tk (pa_cons (pv 1) (pa_cons (pv 2) (pa_cons (pv 3) pa_nil)))))) (pss_one (ps_expr (dCallS cl_parted hr (by decide) (by rfl) tk (pa_cons (pv 1) (pa_cons (pv 2) pa_nil))))))))
    (HdsN.consAs (i := 4) sc__law_refusal.nd rfl rfl ⟨(by rfl), (by decide), .inl g_BadWorlds⟩ (fun a oe cls d pn hz hf =>
    (pss_cons (ps_if (PW.pt (pw_or (pt_val (pe_callB (call_isX hz hf) (by rfl) n_isinstance (by decide +kernel) (pa_cons (pv 4) (pa_cons (pe_glob (by rfl) g_BadNumber rfl) pa_nil)))) (pw_or (pt_val (pe_callB (call_isX hz hf) (by rfl) n_isinstance (by decide +kernel) (pa_cons (pv 4) (pa_cons (pe_glob (by rfl) g_NotThere rfl) pa_nil)))) (pw_or1 (pt_val (pe_callB (call_isX hz hf) (by rfl) n_isinstance (by decide +kernel) (pa_cons (pv 4) (pa_cons (pe_glob (by rfl) g_BadRow rfl) pa_nil)))))))) (pss_one (ps_ret pe_int)) pss_nil)
    (pss_cons (ps_if (PW.pt (pw_and (pt_val (pe_callB (call_isX hz hf) (by rfl) n_isinstance (by decide +kernel) (pa_cons (pv 4) (pa_cons (pe_glob (by rfl) g_JointError rfl) pa_nil)))) (pw_and1 (pt_val (pe_callB (call_isX hz hf) (by rfl) n_isinstance (by decide +kernel) (pa_cons (pv 4) (pa_cons (pe_bltn (v := .ty "ValueError") (by rfl) n_ValueError (by decide +kernel) rfl) pa_nil))))))) (pss_one (ps_ret pe_int)) pss_nil)
    (pss_one (ps_ret pe_int))))) (HdsN.cons ⟨(by rfl), (by decide), .inl g_JointError⟩ (fun a oe cls d pn hz hf =>
    (pss_one (ps_ret pe_int))) HdsN.nil)))
    (pss_one (ps_ret pe_int)))
theorem der__law_refuses {P : Program} {w : World} {K : PySem.W.Frag} {mg : Str → Option Value} {base : Heap} {f : Addr} {sp__law_bad_event : Sp} {sp__law_bad_sights : Sp} {sp__law_draw : Sp} {sp__law_handed : Sp} {sp__law_refusal : Sp} (cl__law_bad_event : Cl P w K mg base 2 "_law_bad_event" sp__law_bad_event) (cl__law_bad_sights : Cl P w K mg base 2 "_law_bad_sights" sp__law_bad_sights) (cl__law_draw : Cl P w K mg base 1 "_law_draw" sp__law_draw) (cl__law_handed : Cl P w K mg base 2 "_law_handed" sp__law_handed) (cl__law_refusal : Cl P w K mg base 6 "_law_refusal" sp__law_refusal) (n_len : mg "len" = none) (n_range : mg "range" = none) (cdv : Value) (A : Around) (outer : List Env) (s : Shared) (H : Hp) (E : XK) (hr : Room 6 (A.deeper (envOfC "_law_refuses" (defScope s__law_refuses) s.heap.objs.size f cdv))) :
    PSs (cxOf (L2N.CX P w) P w K mg base N__law_refuses "_law_refuses" (defScope s__law_refuses) f cdv A outer s H E) (defBody s__law_refuses) (t__law_refuses K w sp__law_bad_event sp__law_bad_sights sp__law_draw sp__law_handed sp__law_refusal E) :=
  (pss_cons (ps_set (i := 4) sc__law_refuses.nd rfl (by first | exact Or.inl rfl | exact Or.inr rfl) (dCall (E := E) cl__law_draw hr (by decide) (by rfl) (L2N.passes_call (L2N.takes_of rfl rfl rfl rfl) fun _ _ _ _ h => h) (pa_cons (pv 0) (pa_cons pe_int pa_nil))))
    (pss_cons (ps_if (pt_cmpR (oNe hr.units) (dCall (E := E) cl__law_refusal hr (by decide) (by rfl) (L2N.passes_call (L2N.takes_of rfl rfl rfl rfl) fun _ _ _ _ h => h) (pa_cons (pv 4) (pa_cons (dCall (E := E) cl__law_bad_sights hr (by decide) (by rfl) (L2N.passes_call (L2N.takes_of rfl rfl rfl rfl) fun _ _ _ _ h => h) (pa_cons (pv 0) (pa_cons (pv 1) pa_nil))) (pa_cons (pv 2) (pa_cons (pv 3) pa_nil))))) pe_int (nomark _)) (pss_one (ps_ret pe_bl)) pss_nil)
    (pss_cons (ps_if (pt_cmpR (oNe hr.units) (dCall (E := E) cl__law_refusal hr (by decide) (by rfl) (L2N.passes_call (L2N.takes_of rfl rfl rfl rfl) fun _ _ _ _ h => h) (pa_cons (pe_op oSub pe_int (pv 4)) (pa_cons (dCall (E := E) cl__law_bad_sights hr (by decide) (by rfl) (L2N.passes_call (L2N.takes_of rfl rfl rfl rfl) fun _ _ _ _ h => h) (pa_cons (pv 0) (pa_cons (pv 1) pa_nil))) (pa_cons (pv 2) (pa_cons (pv 3) pa_nil))))) pe_int (nomark _)) (pss_one (ps_ret pe_bl)) pss_nil)
    (pss_cons (ps_for (passes_of rfl) rfl (pi_range1 (by rfl) n_range (pa_cons pe_int pa_nil)) (pg_name (i := 5) sc__law_refuses.nd rfl (by first | exact Or.inl rfl | exact Or.inr rfl)) (pss_cons (ps_set (i := 6) sc__law_refuses.nd rfl (by first | exact Or.inl rfl | exact Or.inr rfl) (dCall (E := E) cl__law_bad_event hr (by decide) (by rfl) (L2N.passes_call (L2N.takes_of rfl rfl rfl rfl) fun _ _ _ _ h => h) (pa_cons (pv 0) (pa_cons (pe_callB cLen (by rfl) n_len (by decide +kernel) (pa_cons (pe_ix ix_seq (pv 1) pe_int (fun _ _ => rfl)) pa_nil)) pa_nil))))
    (pss_one (ps_if (pt_cmpR (oNe hr.units) (dCall (E := E) cl__law_refusal hr (by decide) (by rfl) (L2N.passes_call (L2N.takes_of rfl rfl rfl rfl) fun _ _ _ _ h => h) (pa_cons (pv 5) (pa_cons (dCall (E := E) cl__law_handed hr (by decide) (by rfl) (L2N.passes_call (L2N.takes_of rfl rfl rfl rfl) fun _ _ _ _ h => h) (pa_cons (pv 0) (pa_cons (pv 1) pa_nil))) (pa_cons (pv 6) (pa_cons (pv 3) pa_nil))))) pe_int (nomark _)) (pss_one (ps_ret pe_bl)) pss_nil))))
    (pss_one (ps_ret pe_bl))))))
theorem der_law {P : Program} {w : World} {K : PySem.W.Frag} {mg : Str → Option Value} {base : Heap} {f : Addr} {sp__law_draw : Sp} {sp__law_event : Sp} {sp__law_handed : Sp} {sp__law_ladder : Sp} {sp__law_refuses : Sp} {sp__law_sights : Sp} {sp__law_state : Sp} {sp__law_tells : Sp} (cl__law_draw : Cl P w K mg base 1 "_law_draw" sp__law_draw) (cl__law_event : Cl P w K mg base 2 "_law_event" sp__law_event) (cl__law_handed : Cl P w K mg base 2 "_law_handed" sp__law_handed) (cl__law_ladder : Cl P w K mg base 3 "_law_ladder" sp__law_ladder) (cl__law_refuses : Cl P w K mg base 7 "_law_refuses" sp__law_refuses) (cl__law_sights : Cl P w K mg base 3 "_law_sights" sp__law_sights) (cl__law_state : Cl P w K mg base 1 "_law_state" sp__law_state) (cl__law_tells : Cl P w K mg base 6 "_law_tells" sp__law_tells) (n_list : mg "list" = none) (n_tuple : mg "tuple" = none) (cdv : Value) (A : Around) (outer : List Env) (s : Shared) (H : Hp) (E : XK) (hr : Room 7 (A.deeper (envOfC "law" (defScope s_law) s.heap.objs.size f cdv))) :
    PSs (cxOf (L2N.CX P w) P w K mg base N_law "law" (defScope s_law) f cdv A outer s H E) (defBody s_law) (t_law K w sp__law_draw sp__law_event sp__law_handed sp__law_ladder sp__law_refuses sp__law_sights sp__law_state sp__law_tells E) :=
  (pss_cons (ps_set (i := 1) sc_law.nd rfl (by first | exact Or.inl rfl | exact Or.inr rfl) (dCall (E := E) cl__law_state hr (by decide) (by rfl) (L2N.passes_call (L2N.takes_of rfl rfl rfl rfl) fun _ _ _ _ h => h) (pa_cons (pv 0) pa_nil)))
    (pss_cons (ps_set (i := 2) sc_law.nd rfl (by first | exact Or.inl rfl | exact Or.inr rfl) (pe_op oAdd pe_int (dCall (E := E) cl__law_draw hr (by decide) (by rfl) (L2N.passes_call (L2N.takes_of rfl rfl rfl rfl) fun _ _ _ _ h => h) (pa_cons (pv 1) (pa_cons pe_int pa_nil)))))
    (pss_cons (ps_set (i := 3) sc_law.nd rfl (by first | exact Or.inl rfl | exact Or.inr rfl) (pe_op oAdd pe_int (dCall (E := E) cl__law_draw hr (by decide) (by rfl) (L2N.passes_call (L2N.takes_of rfl rfl rfl rfl) fun _ _ _ _ h => h) (pa_cons (pv 1) (pa_cons pe_int pa_nil)))))
    (pss_cons (ps_set (i := 4) sc_law.nd rfl (by first | exact Or.inl rfl | exact Or.inr rfl) (dCall (E := E) cl__law_event hr (by decide) (by rfl) (L2N.passes_call (L2N.takes_of rfl rfl rfl rfl) fun _ _ _ _ h => h) (pa_cons (pv 1) (pa_cons (pv 2) pa_nil))))
    (pss_cons (ps_set (i := 5) sc_law.nd rfl (by first | exact Or.inl rfl | exact Or.inr rfl) (dCall (E := E) cl__law_sights hr (by decide) (by rfl) (L2N.passes_call (L2N.takes_of rfl rfl rfl rfl) fun _ _ _ _ h => h) (pa_cons (pv 1) (pa_cons (pv 2) (pa_cons (pv 3) pa_nil)))))
    (pss_cons (ps_if (pt_cmpR (oEq hr.units) (dCall (E := E) cl__law_draw hr (by decide) (by rfl) (L2N.passes_call (L2N.takes_of rfl rfl rfl rfl) fun _ _ _ _ h => h) (pa_cons (pv 1) (pa_cons pe_int pa_nil))) pe_int (nomark _)) (pss_cons (ps_set (i := 6) sc_law.nd rfl (by first | exact Or.inl rfl | exact Or.inr rfl) (dCall (E := E) cl__law_ladder hr (by decide) (by rfl) (L2N.passes_call (L2N.takes_of rfl rfl rfl rfl) fun _ _ _ _ h => h) (pa_cons (pv 1) (pa_cons (pv 2) (pa_cons (pv 3) pa_nil)))))
    (pss_cons (ps_set (i := 5) sc_law.nd rfl (by first | exact Or.inl rfl | exact Or.inr rfl) (pe_ix ix_seq (pv 6) pe_int (fun _ _ => rfl)))
    (pss_one (ps_set (i := 4) sc_law.nd rfl (by first | exact Or.inl rfl | exact Or.inr rfl) (pe_ix ix_seq (pv 6) pe_int (fun _ _ => rfl)))))) pss_nil)
    (pss_cons (ps_set (i := 7) sc_law.nd rfl (by first | exact Or.inl rfl | exact Or.inr rfl) (dCall (E := E) cl__law_draw hr (by decide) (by rfl) (L2N.passes_call (L2N.takes_of rfl rfl rfl rfl) fun _ _ _ _ h => h) (pa_cons (pv 1) (pa_cons (pv 2) pa_nil))))
    (pss_cons (ps_set (i := 8) sc_law.nd rfl (by first | exact Or.inl rfl | exact Or.inr rfl) (dCall (E := E) cl__law_draw hr (by decide) (by rfl) (L2N.passes_call (L2N.takes_of rfl rfl rfl rfl) fun _ _ _ _ h => h) (pa_cons (pv 1) (pa_cons (pv 2) pa_nil))))
    (pss_cons (ps_set (i := 9) sc_law.nd rfl (by first | exact Or.inl rfl | exact Or.inr rfl) (pe_callTy cList (by rfl) n_list (by decide +kernel) (pa_cons (dCall (E := E) cl__law_handed hr (by decide) (by rfl) (L2N.passes_call (L2N.takes_of rfl rfl rfl rfl) fun _ _ _ _ h => h) (pa_cons (pv 1) (pa_cons (pv 5) pa_nil))) pa_nil)))
    (pss_cons (ps_if (pt_not (pt_val (dCall (E := E) cl__law_tells hr (by decide) (by rfl) (L2N.passes_call (L2N.takes_of rfl rfl rfl rfl) fun _ _ _ _ h => h) (pa_cons (pv 9) (pa_cons (pv 5) (pa_cons (pv 4) (pa_cons (pv 7) (pa_cons (pv 8) pa_nil)))))))) (pss_one (ps_ret pe_bl)) pss_nil)
    (pss_cons (ps_if (pt_not (pt_val (dCall (E := E) cl__law_refuses hr (by decide) (by rfl) (L2N.passes_call (L2N.takes_of rfl rfl rfl rfl) fun _ _ _ _ h => h) (pa_cons (pv 1) (pa_cons (pv 5) (pa_cons (pv 4) (pa_cons (pv 7) pa_nil))))))) (pss_one (ps_ret pe_bl)) pss_nil)
    (pss_cons (ps_setLc (i := 10) (own := [("sight", 12)]) rfl sc_law.nd rfl rfl (sw_true rfl rfl rfl (by decide +kernel)) (pi_seq (pv 5)) (blkOk_by (own := [("sight", 12)]) (N := N_law) (sc := defScope s_law) (by decide +kernel)) (fun _ _ _ _ _ => (pg_name (i := 12) sc_law.nd rfl (by first | exact Or.inl rfl | exact Or.inr rfl))) (fun _ _ _ _ _ => pts_nil) (fun _ _ _ _ _ => (pe_callTy cList (by rfl) n_list (by decide +kernel) (pa_cons (pv 12) pa_nil))))
    (pss_cons (ps_set (i := 11) sc_law.nd rfl (by first | exact Or.inl rfl | exact Or.inr rfl) (dCall (E := E) cl__law_draw hr (by decide) (by rfl) (L2N.passes_call (L2N.takes_of rfl rfl rfl rfl) fun _ _ _ _ h => h) (pa_cons (pv 1) (pa_cons (pv 3) pa_nil))))
    (pss_cons (ps_asg (pe_ix ix_seq (dCall (E := E) cl__law_sights hr (by decide) (by rfl) (L2N.passes_call (L2N.takes_of rfl rfl rfl rfl) fun _ _ _ _ h => h) (pa_cons (pv 1) (pa_cons (pv 2) (pa_cons pe_int pa_nil)))) pe_int (fun _ _ => rfl)) (pg_sub (pv 10) (pv 11) set_list))
    (pss_cons (ps_asg (pe_tupleOf (by rfl) n_tuple (pe_ix ix_seq (pv 10) (pv 11) (fun _ _ => rfl))) (pg_sub (pv 9) (pv 11) set_list))
    (pss_one (ps_ret (dCall (E := E) cl__law_tells hr (by decide) (by rfl) (L2N.passes_call (L2N.takes_of rfl rfl rfl rfl) fun _ _ _ _ h => h) (pa_cons (pv 9) (pa_cons (pv 10) (pa_cons (pv 4) (pa_cons (pv 8) (pa_cons (pv 7) pa_nil)))))))))))))))))))))))
abbrev dd_is_integer : He.DefD := ⟨("is_integer", none), "is_integer", "is_integer", defArgs s_is_integer, defBody s_is_integer, defScope s_is_integer, [], []⟩
abbrev dd_is_listed : He.DefD := ⟨("is_listed", none), "is_listed", "is_listed", defArgs s_is_listed, defBody s_is_listed, defScope s_is_listed, [], []⟩
abbrev dd_is_from_to : He.DefD := ⟨("is_from_to", none), "is_from_to", "is_from_to", defArgs s_is_from_to, defBody s_is_from_to, defScope s_is_from_to, [], []⟩
abbrev dd_check_number : He.DefD := ⟨("check_number", none), "check_number", "check_number", defArgs s_check_number, defBody s_check_number, defScope s_check_number, [], []⟩
abbrev dd_is_lot : He.DefD := ⟨("is_lot", none), "is_lot", "is_lot", defArgs s_is_lot, defBody s_is_lot, defScope s_is_lot, [], []⟩
abbrev dd_check_sights : He.DefD := ⟨("check_sights", none), "check_sights", "check_sights", defArgs s_check_sights, defBody s_check_sights, defScope s_check_sights, [], []⟩
abbrev dd_check_event : He.DefD := ⟨("check_event", none), "check_event", "check_event", defArgs s_check_event, defBody s_check_event, defScope s_check_event, [], []⟩
abbrev dd_possible : He.DefD := ⟨("possible", none), "possible", "possible", defArgs s_possible, defBody s_possible, defScope s_possible, [], []⟩
abbrev dd_known_at : He.DefD := ⟨("known_at", none), "known_at", "known_at", defArgs s_known_at, defBody s_known_at, defScope s_known_at, [], []⟩
abbrev dd_numbered : He.DefD := ⟨("numbered", none), "numbered", "numbered", defArgs s_numbered, defBody s_numbered, defScope s_numbered, [], []⟩
abbrev dd_answers_at : He.DefD := ⟨("answers_at", none), "answers_at", "answers_at", defArgs s_answers_at, defBody s_answers_at, defScope s_answers_at, [], []⟩
abbrev dd_heard : He.DefD := ⟨("heard", none), "heard", "heard", defArgs s_heard, defBody s_heard, defScope s_heard, [], []⟩
abbrev dd_all_rounds : He.DefD := ⟨("all_rounds", none), "all_rounds", "all_rounds", defArgs s_all_rounds, defBody s_all_rounds, defScope s_all_rounds, [], []⟩
abbrev dd_asked : He.DefD := ⟨("asked", none), "asked", "asked", defArgs s_asked, defBody s_asked, defScope s_asked, [], []⟩
abbrev dd_parted : He.DefD := ⟨("parted", none), "parted", "parted", defArgs s_parted, defBody s_parted, defScope s_parted, [], []⟩
abbrev dd__law_state : He.DefD := ⟨("_law_state", none), "_law_state", "_law_state", defArgs s__law_state, defBody s__law_state, defScope s__law_state, [], []⟩
abbrev dd__law_draw : He.DefD := ⟨("_law_draw", none), "_law_draw", "_law_draw", defArgs s__law_draw, defBody s__law_draw, defScope s__law_draw, [], []⟩
abbrev dd__law_whole : He.DefD := ⟨("_law_whole", none), "_law_whole", "_law_whole", defArgs s__law_whole, defBody s__law_whole, defScope s__law_whole, [], []⟩
abbrev dd__law_is_lot : He.DefD := ⟨("_law_is_lot", none), "_law_is_lot", "_law_is_lot", defArgs s__law_is_lot, defBody s__law_is_lot, defScope s__law_is_lot, [], []⟩
abbrev dd__law_order : He.DefD := ⟨("_law_order", none), "_law_order", "_law_order", defArgs s__law_order, defBody s__law_order, defScope s__law_order, [], []⟩
abbrev dd__law_named : He.DefD := ⟨("_law_named", none), "_law_named", "_law_named", defArgs s__law_named, defBody s__law_named, defScope s__law_named, [], []⟩
abbrev dd__law_blocks : He.DefD := ⟨("_law_blocks", none), "_law_blocks", "_law_blocks", defArgs s__law_blocks, defBody s__law_blocks, defScope s__law_blocks, [], []⟩
abbrev dd__law_sights : He.DefD := ⟨("_law_sights", none), "_law_sights", "_law_sights", defArgs s__law_sights, defBody s__law_sights, defScope s__law_sights, [], []⟩
abbrev dd__law_handed : He.DefD := ⟨("_law_handed", none), "_law_handed", "_law_handed", defArgs s__law_handed, defBody s__law_handed, defScope s__law_handed, [], []⟩
abbrev dd__law_plain : He.DefD := ⟨("_law_plain", none), "_law_plain", "_law_plain", defArgs s__law_plain, defBody s__law_plain, defScope s__law_plain, [], []⟩
abbrev dd__law_bad_sights : He.DefD := ⟨("_law_bad_sights", none), "_law_bad_sights", "_law_bad_sights", defArgs s__law_bad_sights, defBody s__law_bad_sights, defScope s__law_bad_sights, [], []⟩
abbrev dd__law_bad_event : He.DefD := ⟨("_law_bad_event", none), "_law_bad_event", "_law_bad_event", defArgs s__law_bad_event, defBody s__law_bad_event, defScope s__law_bad_event, [], []⟩
abbrev dd__law_answers : He.DefD := ⟨("_law_answers", none), "_law_answers", "_law_answers", defArgs s__law_answers, defBody s__law_answers, defScope s__law_answers, [], []⟩
abbrev dd__law_least : He.DefD := ⟨("_law_least", none), "_law_least", "_law_least", defArgs s__law_least, defBody s__law_least, defScope s__law_least, [], []⟩
abbrev dd__law_rounds : He.DefD := ⟨("_law_rounds", none), "_law_rounds", "_law_rounds", defArgs s__law_rounds, defBody s__law_rounds, defScope s__law_rounds, [], []⟩
abbrev dd__law_are_rounds : He.DefD := ⟨("_law_are_rounds", none), "_law_are_rounds", "_law_are_rounds", defArgs s__law_are_rounds, defBody s__law_are_rounds, defScope s__law_are_rounds, [], []⟩
abbrev dd__law_are_sights : He.DefD := ⟨("_law_are_sights", none), "_law_are_sights", "_law_are_sights", defArgs s__law_are_sights, defBody s__law_are_sights, defScope s__law_are_sights, [], []⟩
abbrev dd__law_ladder : He.DefD := ⟨("_law_ladder", none), "_law_ladder", "_law_ladder", defArgs s__law_ladder, defBody s__law_ladder, defScope s__law_ladder, [], []⟩
abbrev dd__law_event : He.DefD := ⟨("_law_event", none), "_law_event", "_law_event", defArgs s__law_event, defBody s__law_event, defScope s__law_event, [], []⟩
abbrev dd__law_others : He.DefD := ⟨("_law_others", none), "_law_others", "_law_others", defArgs s__law_others, defBody s__law_others, defScope s__law_others, [], []⟩
abbrev dd__law_tells : He.DefD := ⟨("_law_tells", none), "_law_tells", "_law_tells", defArgs s__law_tells, defBody s__law_tells, defScope s__law_tells, [], []⟩
abbrev dd__law_refusal : He.DefD := ⟨("_law_refusal", none), "_law_refusal", "_law_refusal", defArgs s__law_refusal, defBody s__law_refusal, defScope s__law_refusal, [], []⟩
abbrev dd__law_refuses : He.DefD := ⟨("_law_refuses", none), "_law_refuses", "_law_refuses", defArgs s__law_refuses, defBody s__law_refuses, defScope s__law_refuses, [], []⟩
abbrev dd_law : He.DefD := ⟨("law", none), "law", "law", defArgs s_law, defBody s_law, defScope s_law, [], []⟩
def fns : List He.DefD := [dd_is_integer, dd_is_listed, dd_is_from_to, dd_check_number, dd_is_lot, dd_check_sights, dd_check_event, dd_possible, dd_known_at, dd_numbered, dd_answers_at, dd_heard, dd_all_rounds, dd_asked, dd_parted, dd__law_state, dd__law_draw, dd__law_whole, dd__law_is_lot, dd__law_order, dd__law_named, dd__law_blocks, dd__law_sights, dd__law_handed, dd__law_plain, dd__law_bad_sights, dd__law_bad_event, dd__law_answers, dd__law_least, dd__law_rounds, dd__law_are_rounds, dd__law_are_sights, dd__law_ladder, dd__law_event, dd__law_others, dd__law_tells, dd__law_refusal, dd__law_refuses, dd_law]
def fas : List He.Fa := [.glo "is_integer", .glo "is_listed", .glo "is_from_to", .glo "check_number", .glo "is_lot", .glo "check_sights", .glo "check_event", .glo "possible", .glo "known_at", .glo "numbered", .glo "answers_at", .glo "heard", .glo "all_rounds", .glo "asked", .glo "parted", .glo "_law_state", .glo "_law_draw", .glo "_law_whole", .glo "_law_is_lot", .glo "_law_order", .glo "_law_named", .glo "_law_blocks", .glo "_law_sights", .glo "_law_handed", .glo "_law_plain", .glo "_law_bad_sights", .glo "_law_bad_event", .glo "_law_answers", .glo "_law_least", .glo "_law_rounds", .glo "_law_are_rounds", .glo "_law_are_sights", .glo "_law_ladder", .glo "_law_event", .glo "_law_others", .glo "_law_tells", .glo "_law_refusal", .glo "_law_refuses", .glo "law", .glo "BadNumber", .glo "BadRow", .glo "BadWorlds", .glo "JointError", .glo "NotThere", .free "ValueError", .free "all", .free "bool", .free "enumerate", .free "int", .free "isinstance", .free "len", .free "list", .free "min", .free "range", .free "sorted", .free "tuple", .free "zip", .int "MOST_PEOPLE" 4, .int "MOST_WORLDS" 10, .exc "BadNumber", .exc "BadWorlds"]
def exs : List (PySem.W.Frag → Bool) := [fun K => xfAll (He.ga K) K xn]
theorem facts {P : Program} {w : World} {K : PySem.W.Frag} {h : Heap} {mg : Str → Option Value} {f : Addr} (X : K.In h) (G : h.Ns mainGlobals mg) (hfa : mg ("law" : Str) = some (.ref f)) (c : He.SaysD fas fns K) (cx : ∀ f ∈ exs, f K = true) :
    ∃ fd : FuncData, (∀ (s : Shared) (v : Value), BindsTo s fd ⟨[v], []⟩ [("script", v)]) ∧ ∀ base : Heap, K.In base → base.Ns mainGlobals mg → FnOk P w K mg base (L2N.CX P w) 8 f fd ["script"] (sp_law K) := by
  have F_is_integer := c.def_ 0 (d := dd_is_integer) rfl
  have g_is_integer := He.glo_ok X G (c.fact 0 (f := .glo "is_integer") rfl)
  have F_is_listed := c.def_ 1 (d := dd_is_listed) rfl
  have g_is_listed := He.glo_ok X G (c.fact 1 (f := .glo "is_listed") rfl)
  have F_is_from_to := c.def_ 2 (d := dd_is_from_to) rfl
  have g_is_from_to := He.glo_ok X G (c.fact 2 (f := .glo "is_from_to") rfl)
  have F_check_number := c.def_ 3 (d := dd_check_number) rfl
  have g_check_number := He.glo_ok X G (c.fact 3 (f := .glo "check_number") rfl)
  have F_is_lot := c.def_ 4 (d := dd_is_lot) rfl
  have g_is_lot := He.glo_ok X G (c.fact 4 (f := .glo "is_lot") rfl)
  have F_check_sights := c.def_ 5 (d := dd_check_sights) rfl
  have g_check_sights := He.glo_ok X G (c.fact 5 (f := .glo "check_sights") rfl)
  have F_check_event := c.def_ 6 (d := dd_check_event) rfl
  have g_check_event := He.glo_ok X G (c.fact 6 (f := .glo "check_event") rfl)
  have F_possible := c.def_ 7 (d := dd_possible) rfl
  have g_possible := He.glo_ok X G (c.fact 7 (f := .glo "possible") rfl)
  have F_known_at := c.def_ 8 (d := dd_known_at) rfl
  have g_known_at := He.glo_ok X G (c.fact 8 (f := .glo "known_at") rfl)
  have F_numbered := c.def_ 9 (d := dd_numbered) rfl
  have g_numbered := He.glo_ok X G (c.fact 9 (f := .glo "numbered") rfl)
  have F_answers_at := c.def_ 10 (d := dd_answers_at) rfl
  have g_answers_at := He.glo_ok X G (c.fact 10 (f := .glo "answers_at") rfl)
  have F_heard := c.def_ 11 (d := dd_heard) rfl
  have g_heard := He.glo_ok X G (c.fact 11 (f := .glo "heard") rfl)
  have F_all_rounds := c.def_ 12 (d := dd_all_rounds) rfl
  have g_all_rounds := He.glo_ok X G (c.fact 12 (f := .glo "all_rounds") rfl)
  have F_asked := c.def_ 13 (d := dd_asked) rfl
  have g_asked := He.glo_ok X G (c.fact 13 (f := .glo "asked") rfl)
  have F_parted := c.def_ 14 (d := dd_parted) rfl
  have g_parted := He.glo_ok X G (c.fact 14 (f := .glo "parted") rfl)
  have F__law_state := c.def_ 15 (d := dd__law_state) rfl
  have g__law_state := He.glo_ok X G (c.fact 15 (f := .glo "_law_state") rfl)
  have F__law_draw := c.def_ 16 (d := dd__law_draw) rfl
  have g__law_draw := He.glo_ok X G (c.fact 16 (f := .glo "_law_draw") rfl)
  have F__law_whole := c.def_ 17 (d := dd__law_whole) rfl
  have g__law_whole := He.glo_ok X G (c.fact 17 (f := .glo "_law_whole") rfl)
  have F__law_is_lot := c.def_ 18 (d := dd__law_is_lot) rfl
  have g__law_is_lot := He.glo_ok X G (c.fact 18 (f := .glo "_law_is_lot") rfl)
  have F__law_order := c.def_ 19 (d := dd__law_order) rfl
  have g__law_order := He.glo_ok X G (c.fact 19 (f := .glo "_law_order") rfl)
  have F__law_named := c.def_ 20 (d := dd__law_named) rfl
  have g__law_named := He.glo_ok X G (c.fact 20 (f := .glo "_law_named") rfl)
  have F__law_blocks := c.def_ 21 (d := dd__law_blocks) rfl
  have g__law_blocks := He.glo_ok X G (c.fact 21 (f := .glo "_law_blocks") rfl)
  have F__law_sights := c.def_ 22 (d := dd__law_sights) rfl
  have g__law_sights := He.glo_ok X G (c.fact 22 (f := .glo "_law_sights") rfl)
  have F__law_handed := c.def_ 23 (d := dd__law_handed) rfl
  have g__law_handed := He.glo_ok X G (c.fact 23 (f := .glo "_law_handed") rfl)
  have F__law_plain := c.def_ 24 (d := dd__law_plain) rfl
  have g__law_plain := He.glo_ok X G (c.fact 24 (f := .glo "_law_plain") rfl)
  have F__law_bad_sights := c.def_ 25 (d := dd__law_bad_sights) rfl
  have g__law_bad_sights := He.glo_ok X G (c.fact 25 (f := .glo "_law_bad_sights") rfl)
  have F__law_bad_event := c.def_ 26 (d := dd__law_bad_event) rfl
  have g__law_bad_event := He.glo_ok X G (c.fact 26 (f := .glo "_law_bad_event") rfl)
  have F__law_answers := c.def_ 27 (d := dd__law_answers) rfl
  have g__law_answers := He.glo_ok X G (c.fact 27 (f := .glo "_law_answers") rfl)
  have F__law_least := c.def_ 28 (d := dd__law_least) rfl
  have g__law_least := He.glo_ok X G (c.fact 28 (f := .glo "_law_least") rfl)
  have F__law_rounds := c.def_ 29 (d := dd__law_rounds) rfl
  have g__law_rounds := He.glo_ok X G (c.fact 29 (f := .glo "_law_rounds") rfl)
  have F__law_are_rounds := c.def_ 30 (d := dd__law_are_rounds) rfl
  have g__law_are_rounds := He.glo_ok X G (c.fact 30 (f := .glo "_law_are_rounds") rfl)
  have F__law_are_sights := c.def_ 31 (d := dd__law_are_sights) rfl
  have g__law_are_sights := He.glo_ok X G (c.fact 31 (f := .glo "_law_are_sights") rfl)
  have F__law_ladder := c.def_ 32 (d := dd__law_ladder) rfl
  have g__law_ladder := He.glo_ok X G (c.fact 32 (f := .glo "_law_ladder") rfl)
  have F__law_event := c.def_ 33 (d := dd__law_event) rfl
  have g__law_event := He.glo_ok X G (c.fact 33 (f := .glo "_law_event") rfl)
  have F__law_others := c.def_ 34 (d := dd__law_others) rfl
  have g__law_others := He.glo_ok X G (c.fact 34 (f := .glo "_law_others") rfl)
  have F__law_tells := c.def_ 35 (d := dd__law_tells) rfl
  have g__law_tells := He.glo_ok X G (c.fact 35 (f := .glo "_law_tells") rfl)
  have F__law_refusal := c.def_ 36 (d := dd__law_refusal) rfl
  have g__law_refusal := He.glo_ok X G (c.fact 36 (f := .glo "_law_refusal") rfl)
  have F__law_refuses := c.def_ 37 (d := dd__law_refuses) rfl
  have g__law_refuses := He.glo_ok X G (c.fact 37 (f := .glo "_law_refuses") rfl)
  have F_law := c.def_ 38 (d := dd_law) rfl
  have g_law := He.glo_ok X G (c.fact 38 (f := .glo "law") rfl)
  have gC_BadNumber := He.glo_ok X G (c.fact 39 (f := .glo "BadNumber") rfl)
  have gC_BadRow := He.glo_ok X G (c.fact 40 (f := .glo "BadRow") rfl)
  have gC_BadWorlds := He.glo_ok X G (c.fact 41 (f := .glo "BadWorlds") rfl)
  have gC_JointError := He.glo_ok X G (c.fact 42 (f := .glo "JointError") rfl)
  have gC_NotThere := He.glo_ok X G (c.fact 43 (f := .glo "NotThere") rfl)
  have n_ValueError := He.free_ok X G (c.fact 44 (f := .free "ValueError") rfl)
  have n_all := He.free_ok X G (c.fact 45 (f := .free "all") rfl)
  have n_bool := He.free_ok X G (c.fact 46 (f := .free "bool") rfl)
  have n_enumerate := He.free_ok X G (c.fact 47 (f := .free "enumerate") rfl)
  have n_int := He.free_ok X G (c.fact 48 (f := .free "int") rfl)
  have n_isinstance := He.free_ok X G (c.fact 49 (f := .free "isinstance") rfl)
  have n_len := He.free_ok X G (c.fact 50 (f := .free "len") rfl)
  have n_list := He.free_ok X G (c.fact 51 (f := .free "list") rfl)
  have n_min := He.free_ok X G (c.fact 52 (f := .free "min") rfl)
  have n_range := He.free_ok X G (c.fact 53 (f := .free "range") rfl)
  have n_sorted := He.free_ok X G (c.fact 54 (f := .free "sorted") rfl)
  have n_tuple := He.free_ok X G (c.fact 55 (f := .free "tuple") rfl)
  have n_zip := He.free_ok X G (c.fact 56 (f := .free "zip") rfl)
  have k_MOST_PEOPLE := He.int_ok X G (c.fact 57 (f := .int "MOST_PEOPLE" 4) rfl)
  have k_MOST_WORLDS := He.int_ok X G (c.fact 58 (f := .int "MOST_WORLDS" 10) rfl)
  have x_BadNumber : ExcF K (He.ga K "BadNumber") := He.exc_ok (c.fact 59 (f := .exc "BadNumber") rfl)
  have x_BadWorlds : ExcF K (He.ga K "BadWorlds") := He.exc_ok (c.fact 60 (f := .exc "BadWorlds") rfl)
  have fx := xfAll_ok (cx _ (List.mem_of_getElem? (i := 0) rfl))
  obtain ⟨fd, F⟩ := F_law
  have e := hfa.symm.trans g_law
  cases e
  have b := FunD.bindsA (ps := ["script"]) F (fun _ _ _ _ _ _ us hl => match us, hl with | [_], _ => rfl)
  refine ⟨fd, fun s v => b s [v] rfl, fun base _ _ => ?_⟩
  have cl_is_integer : Cl P w K mg base 1 "is_integer" (spF (He.ga K) (vl1 W_is_integer)) := cl_of F_is_integer g_is_integer sc_is_integer (fun _ _ _ _ _ _ us hl => match us, hl with | [_], _ => rfl) (spF_len fun ds P X h => vl1_len ds P X h) (fun cdv A outer s H E hr => der_is_integer n_bool n_int n_isinstance cdv A outer s H E hr) (P_is_integer (A := (He.ga K)))
  have cl_possible : Cl P w K mg base 1 "possible" (spF (He.ga K) (vl2 W_possible)) := cl_of F_possible g_possible sc_possible (fun _ _ _ _ _ _ us hl => match us, hl with | [_, _], _ => rfl) (spF_len fun ds P X h => vl2_len ds P X h) (fun cdv A outer s H E hr => der_possible n_enumerate n_tuple cdv A outer s H E hr) (P_possible (A := (He.ga K)))
  have cl_heard : Cl P w K mg base 1 "heard" (spFN (He.ga K) (vl2 W_heard)) := cl_of F_heard g_heard sc_heard (fun _ _ _ _ _ _ us hl => match us, hl with | [_, _], _ => rfl) (spFN_len fun ds P X h => vl2_len ds P X h) (fun cdv A outer s H E hr => der_heard n_tuple n_zip cdv A outer s H E hr) (P_heard (A := (He.ga K)))
  have cl__law_state : Cl P w K mg base 1 "_law_state" (sp__law_state K) := cl_of F__law_state g__law_state sc__law_state (fun _ _ _ _ _ _ us hl => match us, hl with | [_], _ => rfl) (fun vs H Q E h => by obtain ⟨_, _, rfl, _⟩ := h; rfl) (fun cdv A outer s H E hr => der__law_state n_int n_len n_min n_range cdv A outer s H E hr) (pure_state)
  have cl__law_draw : Cl P w K mg base 1 "_law_draw" (spP (He.ga K) St (vl1 W__law_draw)) := cl_of F__law_draw g__law_draw sc__law_draw (fun _ _ _ _ _ _ us hl => match us, hl with | [_, _], _ => rfl) (spP_len fun ds P X h => congrArg (· + 1) (vl1_len ds P X h)) (fun cdv A outer s H E hr => der__law_draw n_int n_len cdv A outer s H E hr) (P__law_draw (A := (He.ga K)))
  have cl__law_whole : Cl P w K mg base 1 "_law_whole" (spF (He.ga K) (vl1 W__law_whole)) := cl_of F__law_whole g__law_whole sc__law_whole (fun _ _ _ _ _ _ us hl => match us, hl with | [_], _ => rfl) (spF_len fun ds P X h => vl1_len ds P X h) (fun cdv A outer s H E hr => der__law_whole n_bool n_int n_isinstance cdv A outer s H E hr) (P__law_whole (A := (He.ga K)))
  have cl__law_plain : Cl P w K mg base 1 "_law_plain" (spFN (He.ga K) (vl1 W__law_plain)) := cl_of F__law_plain g__law_plain sc__law_plain (fun _ _ _ _ _ _ us hl => match us, hl with | [_], _ => rfl) (spFN_len fun ds P X h => vl1_len ds P X h) (fun cdv A outer s H E hr => der__law_plain n_list cdv A outer s H E hr) (P__law_plain (A := (He.ga K)))
  have cl__law_answers : Cl P w K mg base 1 "_law_answers" (spFN (He.ga K) (vl3 W__law_answers)) := cl_of F__law_answers g__law_answers sc__law_answers (fun _ _ _ _ _ _ us hl => match us, hl with | [_, _, _], _ => rfl) (spFN_len fun ds P X h => vl3_len ds P X h) (fun cdv A outer s H E hr => der__law_answers n_len n_range n_tuple cdv A outer s H E hr) (P__law_answers (A := (He.ga K)))
  have cl__law_least : Cl P w K mg base 1 "_law_least" (spFN (He.ga K) (vl2 W__law_least)) := cl_of F__law_least g__law_least sc__law_least (fun _ _ _ _ _ _ us hl => match us, hl with | [_, _], _ => rfl) (spFN_len fun ds P X h => vl2_len ds P X h) (fun cdv A outer s H E hr => der__law_least n_len n_range cdv A outer s H E hr) (P__law_least (A := (He.ga K)))
  have cl__law_others : Cl P w K mg base 1 "_law_others" (spF (He.ga K) (vl2 W__law_others)) := cl_of F__law_others g__law_others sc__law_others (fun _ _ _ _ _ _ us hl => match us, hl with | [_, _], _ => rfl) (spF_len fun ds P X h => vl2_len ds P X h) (fun cdv A outer s H E hr => der__law_others n_range n_tuple cdv A outer s H E hr) (P__law_others (A := (He.ga K)))
  have cl_is_listed : Cl P w K mg base 2 "is_listed" (spF (He.ga K) (vl1 W_is_listed)) := cl_of F_is_listed g_is_listed sc_is_listed (fun _ _ _ _ _ _ us hl => match us, hl with | [_], _ => rfl) (spF_len fun ds P X h => vl1_len ds P X h) (fun cdv A outer s H E hr => der_is_listed cl_is_integer n_all n_isinstance n_list n_tuple cdv A outer s H E hr) (P_is_listed (A := (He.ga K)))
  have cl_is_from_to : Cl P w K mg base 2 "is_from_to" (spF (He.ga K) (vl3 W_is_from_to)) := cl_of F_is_from_to g_is_from_to sc_is_from_to (fun _ _ _ _ _ _ us hl => match us, hl with | [_, _, _], _ => rfl) (spF_len fun ds P X h => vl3_len ds P X h) (fun cdv A outer s H E hr => der_is_from_to cl_is_integer cdv A outer s H E hr) (P_is_from_to (A := (He.ga K)))
  have cl_known_at : Cl P w K mg base 2 "known_at" (spF (He.ga K) (vl2 W_known_at)) := cl_of F_known_at g_known_at sc_known_at (fun _ _ _ _ _ _ us hl => match us, hl with | [_, _], _ => rfl) (spF_len fun ds P X h => vl2_len ds P X h) (fun cdv A outer s H E hr => der_known_at cl_possible n_all n_len n_range n_tuple cdv A outer s H E hr) (P_known_at (A := (He.ga K)))
  have cl_numbered : Cl P w K mg base 2 "numbered" (spF (He.ga K) (vl1 W_numbered)) := cl_of F_numbered g_numbered sc_numbered (fun _ _ _ _ _ _ us hl => match us, hl with | [_], _ => rfl) (spF_len fun ds P X h => vl1_len ds P X h) (fun cdv A outer s H E hr => der_numbered cl_possible n_len n_range n_tuple cdv A outer s H E hr) (P_numbered (A := (He.ga K)))
  have cl__law_is_lot : Cl P w K mg base 2 "_law_is_lot" (spF (He.ga K) (vl2 W__law_is_lot)) := cl_of F__law_is_lot g__law_is_lot sc__law_is_lot (fun _ _ _ _ _ _ us hl => match us, hl with | [_, _], _ => rfl) (spF_len fun ds P X h => vl2_len ds P X h) (fun cdv A outer s H E hr => der__law_is_lot cl__law_whole n_isinstance n_len n_range n_tuple cdv A outer s H E hr) (P__law_is_lot (A := (He.ga K)))
  have cl__law_order : Cl P w K mg base 2 "_law_order" (spPN (He.ga K) St (vl1 W__law_order)) := cl_of F__law_order g__law_order sc__law_order (fun _ _ _ _ _ _ us hl => match us, hl with | [_, _], _ => rfl) (spPN_len fun ds P X h => congrArg (· + 1) (vl1_len ds P X h)) (fun cdv A outer s H E hr => der__law_order cl__law_draw n_len n_list n_range cdv A outer s H E hr) (P__law_order (A := (He.ga K)))
  have cl__law_named : Cl P w K mg base 2 "_law_named" (spPN (He.ga K) St (vl1 W__law_named)) := cl_of F__law_named g__law_named sc__law_named (fun _ _ _ _ _ _ us hl => match us, hl with | [_, _], _ => rfl) (spPN_len fun ds P X h => congrArg (· + 1) (vl1_len ds P X h)) (fun cdv A outer s H E hr => der__law_named cl__law_draw cdv A outer s H E hr) (P__law_named (A := (He.ga K)))
  have cl__law_blocks : Cl P w K mg base 2 "_law_blocks" (spPN (He.ga K) St (vl1 W__law_blocks)) := cl_of F__law_blocks g__law_blocks sc__law_blocks (fun _ _ _ _ _ _ us hl => match us, hl with | [_, _], _ => rfl) (spPN_len fun ds P X h => congrArg (· + 1) (vl1_len ds P X h)) (fun cdv A outer s H E hr => der__law_blocks cl__law_draw n_int n_len n_range cdv A outer s H E hr) (P__law_blocks (A := (He.ga K)))
  have cl__law_handed : Cl P w K mg base 2 "_law_handed" (spP (He.ga K) St (vl1 W__law_handed)) := cl_of F__law_handed g__law_handed sc__law_handed (fun _ _ _ _ _ _ us hl => match us, hl with | [_, _], _ => rfl) (spP_len fun ds P X h => congrArg (· + 1) (vl1_len ds P X h)) (fun cdv A outer s H E hr => der__law_handed cl__law_draw n_list n_tuple cdv A outer s H E hr) (P__law_handed (A := (He.ga K)))
  have cl__law_bad_sights : Cl P w K mg base 2 "_law_bad_sights" (spP (He.ga K) St (vl1 W__law_bad_sights)) := cl_of F__law_bad_sights g__law_bad_sights sc__law_bad_sights (fun _ _ _ _ _ _ us hl => match us, hl with | [_, _], _ => rfl) (spP_len fun ds P X h => congrArg (· + 1) (vl1_len ds P X h)) (fun cdv A outer s H E hr => der__law_bad_sights cl__law_draw n_len n_list n_range n_tuple cdv A outer s H E hr) (P__law_bad_sights (A := (He.ga K)))
  have cl__law_bad_event : Cl P w K mg base 2 "_law_bad_event" (spP (He.ga K) St (vl1 W__law_bad_event)) := cl_of F__law_bad_event g__law_bad_event sc__law_bad_event (fun _ _ _ _ _ _ us hl => match us, hl with | [_, _], _ => rfl) (spP_len fun ds P X h => congrArg (· + 1) (vl1_len ds P X h)) (fun cdv A outer s H E hr => der__law_bad_event cl__law_draw cdv A outer s H E hr) (P__law_bad_event (A := (He.ga K)))
  have cl__law_rounds : Cl P w K mg base 2 "_law_rounds" (spF (He.ga K) (vl2 W__law_rounds)) := cl_of F__law_rounds g__law_rounds sc__law_rounds (fun _ _ _ _ _ _ us hl => match us, hl with | [_, _], _ => rfl) (spF_len fun ds P X h => vl2_len ds P X h) (fun cdv A outer s H E hr => der__law_rounds cl__law_answers cl__law_least n_range cdv A outer s H E hr) (P__law_rounds (A := (He.ga K)))
  have cl__law_event : Cl P w K mg base 2 "_law_event" (spP (He.ga K) St (vl1 W__law_event)) := cl_of F__law_event g__law_event sc__law_event (fun _ _ _ _ _ _ us hl => match us, hl with | [_, _], _ => rfl) (spP_len fun ds P X h => congrArg (· + 1) (vl1_len ds P X h)) (fun cdv A outer s H E hr => der__law_event cl__law_draw n_range n_tuple cdv A outer s H E hr) (P__law_event (A := (He.ga K)))
  have cl_check_number : Cl P w K mg base 3 "check_number" (spF (He.ga K) (vl3 W_check_number)) := cl_of F_check_number g_check_number sc_check_number (fun _ _ _ _ _ _ us hl => match us, hl with | [_, _, _], _ => rfl) (spF_len fun ds P X h => vl3_len ds P X h) (fun cdv A outer s H E hr => der_check_number cl_is_from_to gC_BadNumber x_BadNumber cdv A outer s H E hr) (P_check_number (A := (He.ga K)))
  have cl_is_lot : Cl P w K mg base 3 "is_lot" (spF (He.ga K) (vl2 W_is_lot)) := cl_of F_is_lot g_is_lot sc_is_lot (fun _ _ _ _ _ _ us hl => match us, hl with | [_, _], _ => rfl) (spF_len fun ds P X h => vl2_len ds P X h) (fun cdv A outer s H E hr => der_is_lot cl_is_from_to n_isinstance n_tuple cdv A outer s H E hr) (P_is_lot (A := (He.ga K)))
  have cl_check_sights : Cl P w K mg base 3 "check_sights" (spFN (He.ga K) (vl1 W_check_sights)) := cl_of F_check_sights g_check_sights sc_check_sights (fun _ _ _ _ _ _ us hl => match us, hl with | [_], _ => rfl) (spFN_len fun ds P X h => vl1_len ds P X h) (fun cdv A outer s H E hr => der_check_sights cl_is_listed k_MOST_PEOPLE k_MOST_WORLDS gC_BadWorlds x_BadWorlds n_all n_isinstance n_len n_list n_tuple cdv A outer s H E hr) (P_check_sights (A := (He.ga K)))
  have cl_answers_at : Cl P w K mg base 3 "answers_at" (spF (He.ga K) (vl3 W_answers_at)) := cl_of F_answers_at g_answers_at sc_answers_at (fun _ _ _ _ _ _ us hl => match us, hl with | [_, _, _], _ => rfl) (spF_len fun ds P X h => vl3_len ds P X h) (fun cdv A outer s H E hr => der_answers_at cl_known_at n_int n_len n_range n_tuple n_zip cdv A outer s H E hr) (P_answers_at (A := (He.ga K)))
  have cl__law_sights : Cl P w K mg base 3 "_law_sights" (spPN (He.ga K) St (vl2 W__law_sights)) := cl_of F__law_sights g__law_sights sc__law_sights (fun _ _ _ _ _ _ us hl => match us, hl with | [_, _, _], _ => rfl) (spPN_len fun ds P X h => congrArg (· + 1) (vl2_len ds P X h)) (fun cdv A outer s H E hr => der__law_sights cl__law_blocks cl__law_draw cl__law_named cl__law_order n_range cdv A outer s H E hr) (P__law_sights (A := (He.ga K)))
  have cl__law_are_rounds : Cl P w K mg base 3 "_law_are_rounds" (spF (He.ga K) (vl3 W__law_are_rounds)) := cl_of F__law_are_rounds g__law_are_rounds sc__law_are_rounds (fun _ _ _ _ _ _ us hl => match us, hl with | [_, _, _], _ => rfl) (spF_len fun ds P X h => vl3_len ds P X h) (fun cdv A outer s H E hr => der__law_are_rounds cl__law_is_lot n_isinstance n_len n_range n_tuple cdv A outer s H E hr) (P__law_are_rounds (A := (He.ga K)))
  have cl__law_are_sights : Cl P w K mg base 3 "_law_are_sights" (spF (He.ga K) (vl2 W__law_are_sights)) := cl_of F__law_are_sights g__law_are_sights sc__law_are_sights (fun _ _ _ _ _ _ us hl => match us, hl with | [_, _], _ => rfl) (spF_len fun ds P X h => vl2_len ds P X h) (fun cdv A outer s H E hr => der__law_are_sights cl__law_is_lot n_isinstance n_len n_range n_tuple cdv A outer s H E hr) (P__law_are_sights (A := (He.ga K)))
  have cl__law_ladder : Cl P w K mg base 3 "_law_ladder" (spP (He.ga K) St (vl2 W__law_ladder)) := cl_of F__law_ladder g__law_ladder sc__law_ladder (fun _ _ _ _ _ _ us hl => match us, hl with | [_, _, _], _ => rfl) (spP_len fun ds P X h => congrArg (· + 1) (vl2_len ds P X h)) (fun cdv A outer s H E hr => der__law_ladder cl__law_draw cl__law_named cl__law_order n_int n_range n_sorted n_tuple cdv A outer s H E hr) (P__law_ladder (A := (He.ga K)))
  have cl_check_event : Cl P w K mg base 4 "check_event" (spF (He.ga K) (vl2 W_check_event)) := cl_of F_check_event g_check_event sc_check_event (fun _ _ _ _ _ _ us hl => match us, hl with | [_, _], _ => rfl) (spF_len fun ds P X h => vl2_len ds P X h) (fun cdv A outer s H E hr => der_check_event cl_is_lot gC_BadWorlds x_BadWorlds n_len cdv A outer s H E hr) (P_check_event (A := (He.ga K)))
  have cl_all_rounds : Cl P w K mg base 4 "all_rounds" (spF (He.ga K) (vl2 W_all_rounds)) := cl_of F_all_rounds g_all_rounds sc_all_rounds (fun _ _ _ _ _ _ us hl => match us, hl with | [_, _], _ => rfl) (spF_len fun ds P X h => vl2_len ds P X h) (fun cdv A outer s H E hr => der_all_rounds cl_answers_at cl_heard cl_numbered n_len n_range cdv A outer s H E hr) (P_all_rounds (A := (He.ga K)))
  have cl_asked : Cl P w K mg base 5 "asked" (spF (He.ga K) (vl3 W_asked)) := cl_of F_asked g_asked sc_asked (fun _ _ _ _ _ _ us hl => match us, hl with | [_, _, _], _ => rfl) (spF_len fun ds P X h => vl3_len ds P X h) (fun cdv A outer s H E hr => der_asked cl_all_rounds cl_check_event cl_check_number cl_check_sights n_len n_tuple cdv A outer s H E hr) (P_asked (A := (He.ga K)))
  have cl_parted : Cl P w K mg base 5 "parted" (spF (He.ga K) (vl2 W_parted)) := cl_of F_parted g_parted sc_parted (fun _ _ _ _ _ _ us hl => match us, hl with | [_, _], _ => rfl) (spF_len fun ds P X h => vl2_len ds P X h) (fun cdv A outer s H E hr => der_parted cl_all_rounds cl_check_event cl_check_sights n_len n_tuple cdv A outer s H E hr) (P_parted (A := (He.ga K)))
  have cl__law_tells : Cl P w K mg base 6 "_law_tells" (spF (He.ga K) (vl5 W__law_tells)) := cl_of F__law_tells g__law_tells sc__law_tells (fun _ _ _ _ _ _ us hl => match us, hl with | [_, _, _, _, _], _ => rfl) (spF_len fun ds P X h => vl5_len ds P X h) (fun cdv A outer s H E hr => der__law_tells cl__law_are_rounds cl__law_are_sights cl__law_least cl__law_others cl__law_plain cl__law_rounds cl_asked cl_parted n_len cdv A outer s H E hr) (P__law_tells (A := (He.ga K)))
  have cl__law_refusal : Cl P w K mg base 6 "_law_refusal" (spF (He.ga K) (vl4 W__law_refusal)) := cl_of F__law_refusal g__law_refusal sc__law_refusal (fun _ _ _ _ _ _ us hl => match us, hl with | [_, _, _, _], _ => rfl) (spF_len fun ds P X h => vl4_len ds P X h) (fun cdv A outer s H E hr => der__law_refusal cl_asked cl_parted gC_BadNumber gC_BadRow gC_BadWorlds gC_JointError gC_NotThere n_ValueError n_isinstance cdv A outer s H E hr) (P__law_refusal (A := (He.ga K)) fx)
  have cl__law_refuses : Cl P w K mg base 7 "_law_refuses" (spP (He.ga K) St (vl3 W__law_refuses)) := cl_of F__law_refuses g__law_refuses sc__law_refuses (fun _ _ _ _ _ _ us hl => match us, hl with | [_, _, _, _], _ => rfl) (spP_len fun ds P X h => congrArg (· + 1) (vl3_len ds P X h)) (fun cdv A outer s H E hr => der__law_refuses cl__law_bad_event cl__law_bad_sights cl__law_draw cl__law_handed cl__law_refusal n_len n_range cdv A outer s H E hr) (P__law_refuses (A := (He.ga K)))
  exact fnok_of F sc_law (fun vs H Q E h => by obtain ⟨_, _, rfl, _⟩ := h; rfl) (fun cdv A outer s H E hr => der_law cl__law_draw cl__law_event cl__law_handed cl__law_ladder cl__law_refuses cl__law_sights cl__law_state cl__law_tells n_list n_tuple cdv A outer s H E hr) (P_law (A := (He.ga K)) law86)
abbrev theRow : PySem.W.OpenRow := PySem.W.OpenLaw.row PySem.Challenge.rw_everyhands_k86_whole_rounds_of_answers
abbrev hk : PySem.W.Hook := hookE 4 fas fns exs
def ob (s : PySem.W.SharedT) : He.AlD × Bool := obE 4 fas fns exs (HandSHeadRun.getT s)
theorem ob_eq (s : PySem.W.SharedT) : ob s = hk.obs s.abs := obE_eq (HandSHeadRun.getT_eq s)
abbrev loose : List PySem.Str := (["JointError", "BadNumber", "BadWorlds", "NotThere", "BadRow", "is_integer", "is_listed", "is_from_to", "check_number", "is_lot", "check_sights", "check_event"] : List PySem.Str) ++ (["possible", "known_at", "numbered", "answers_at", "heard", "all_rounds", "asked", "parted", "_law_state", "_law_draw", "_law_whole", "_law_is_lot"] : List PySem.Str) ++ (["_law_order", "_law_named", "_law_blocks", "_law_sights", "_law_handed", "_law_plain", "_law_bad_sights", "_law_bad_event", "_law_answers", "_law_least", "_law_rounds", "_law_are_rounds"] : List PySem.Str) ++ (["_law_are_sights", "_law_ladder", "_law_event", "_law_others", "_law_tells", "_law_refusal", "_law_refuses", "MOST_WORLDS", "MOST_PEOPLE"] : List PySem.Str)
theorem run (w : World) : HandSHeadRun.RunEq theRow (PySem.W.view theRow.prog [51]) hk ob 4000 loose w := by
  intro os
  kernel_rfl
end Eh
open PySem PySem.W PySem.Calls PyProof.Rows
set_option maxHeartbeats 0
theorem PySem.Challenge.cw_everyhands_k86_whole_rounds_of_answers_holds : PySem.Challenge.rw_everyhands_k86_whole_rounds_of_answers.Holds := by
  w_on; o_law
  refine HandSHeadRun.head_any (r := OpenLaw.row PySem.Challenge.rw_everyhands_k86_whole_rounds_of_answers) (q := view (OpenLaw.row PySem.Challenge.rw_everyhands_k86_whole_rounds_of_answers).prog [51]) (H := Eh.hk) (ob := Eh.ob) (M := 4000) (loose := Eh.loose) (d := HandSHeadRun.topDef (OpenLaw.row PySem.Challenge.rw_everyhands_k86_whole_rounds_of_answers).prog 51) (kwd := []) Eh.ob_eq
    (by kernel_rfl) (fun s => by kernel_rfl) Eh.run (by kernel_rfl) (by kernel_rfl) (by kernel_rfl) (by rfl) (by first | assumption | decide +kernel) (by decide +kernel) ⟨rfl, rfl, rfl, rfl, rfl, by decide +kernel⟩ ?hw ?hc
  case hw => w_witness2
  case hc =>
    refine Eh.walkE (l := PySem.Challenge.rw_everyhands_k86_whole_rounds_of_answers) (n := 63) (k := 8) (x := "script") (CX := fun w => L2N.CX (PySem.Challenge.rw_everyhands_k86_whole_rounds_of_answers).prog w) rfl (by decide) (by kernel_rfl) ⟨rfl, by decide, by decide⟩ ?F (fun _ _ _ _ _ z => Eh.cxn_false z)
    intro w mg fa h Y G hmg0
    obtain ⟨K, KX, c, cx⟩ := Y
    have hmg : mg ("law" : PySem.Str) = some (.ref fa) := by
      have e : (HandSHeadRun.topDef (OpenLaw.row PySem.Challenge.rw_everyhands_k86_whole_rounds_of_answers).prog 51).name = ("law" : PySem.Str) := by kernel_rfl
      rw [← e]
      exact hmg0
    obtain ⟨fd, hb, hF⟩ := Eh.facts (P := (PySem.Challenge.rw_everyhands_k86_whole_rounds_of_answers).prog) (w := w) KX G hmg c cx
    exact ⟨K, fd, Eh.sp_law K, KX, hb, fun H a ns hl ho hS => ⟨a, ns, rfl, Eh.fz_of ho hS, hl, fun _ => rfl⟩, hF⟩
