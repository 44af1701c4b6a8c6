import PyProof.Rows.All
import Wide.All
import OpenK.AllK
import Wide.FinOn
import KE.KIsAll
import KE.KTryMore
import KE.GoesEnum
import KE.BitLaws
import PyProof.ListRange
import HandS.Base
import HandS.Call
import HandS.Exc
import HandS.ExcCtx
import HandS.ExcIs
import HandS.ExcField
import HandS.HotCalls
import HandS.ForMost
import HandS.ForExc
import HandS.Walk
import HandS.WordsExc
import HandS.Defaults
import HandS.Rev
import HandS.RevTup
import HandS.Zip
import HandS.Deep
import HandS.TupAny
import HandS.TupMul
import HandS.IsInst
import HandS.Conv
import HandS.Strs
import HandS.SetFor
import HandS.SortInts
import HandS.WideBits
import HandS.Head0
import HandS.Head1
import HandS.Head2
import HandS.HeadEnd
import HandS.HeadHook1
import HandS.HeadHook2
import PySem.Challenge.RW_everyhands_k91_whole_calls_led
set_option Elab.async false
set_option linter.all false
set_option maxRecDepth 100000
set_option maxHeartbeats 4000000
namespace Eh
open PySem PySem.Spec PyProof.Rows L2

/-! ### data in the heap -/
mutual
inductive Rp (F : Hp) : V → PyData → Prop
  | non : Rp F .non .none
  | bl (b : Bool) : Rp F (.bl b) (.bool b)
  | int (i : Int) : Rp F (.int i) (.int i)
  | str (x : Str) : Rp F (.str x) (.str x)
  | lst {a : Addr} {xs : List V} {ds : List PyData} : F a = some (.lst xs) → RpAll F xs ds → Rp F (.ref a) (.list ds)
  | tup {a : Addr} {xs : List V} {ds : List PyData} : F a = some (.tup xs) → RpAll F xs ds → Rp F (.ref a) (.tuple ds)
inductive RpAll (F : Hp) : List V → List PyData → Prop
  | nil : RpAll F [] []
  | cons {v : V} {vs : List V} {d : PyData} {ds : List PyData} : Rp F v d → RpAll F vs ds → RpAll F (v :: vs) (d :: ds)
end

def Sub (F H : Hp) : Prop := ∀ a o, F a = some o → H a = some o
theorem Sub.refl (F : Hp) : Sub F F := fun _ _ h => h
theorem Sub.trans {F G H : Hp} (a : Sub F G) (b : Sub G H) : Sub F H := fun x o h => b x o (a x o h)
theorem Sub.new {H : Hp} {p : Addr} {o : HO} (h : H p = none) : Sub H (upd H p o) := fun a u e => by
  rw [upd_ne (ne_of_none e h)]
  exact e
mutual
theorem Rp.mono {F G : Hp} (s : Sub F G) : ∀ {v : V} {d : PyData}, Rp F v d → Rp G v d
  | _, _, .non => .non
  | _, _, .bl b => .bl b
  | _, _, .int i => .int i
  | _, _, .str x => .str x
  | _, _, .lst h a => .lst (s _ _ h) (RpAll.mono s a)
  | _, _, .tup h a => .tup (s _ _ h) (RpAll.mono s a)
theorem RpAll.mono {F G : Hp} (s : Sub F G) : ∀ {vs : List V} {ds : List PyData}, RpAll F vs ds → RpAll G vs ds
  | _, _, .nil => .nil
  | _, _, .cons h a => .cons (Rp.mono s h) (RpAll.mono s a)
end
mutual
theorem Rp.dp {F : Hp} {K : PySem.W.Frag} : ∀ {v : V} {d : PyData}, Rp F v d → Dp K F v d
  | _, _, .non => .non
  | _, _, .bl b => .bl b
  | _, _, .int i => .int i
  | _, _, .str x => .str x
  | _, _, .lst h a => .lst (SqL.of h) (RpAll.dp a)
  | _, _, .tup h a => .tup (SqT.of h) (RpAll.dp a)
theorem RpAll.dp {F : Hp} {K : PySem.W.Frag} : ∀ {vs : List V} {ds : List PyData}, RpAll F vs ds → DpAll K F vs ds
  | _, _, .nil => .nil
  | _, _, .cons h a => .cons (Rp.dp h) (RpAll.dp a)
end
section
variable {F : Hp} {v : V} {vs ws : List V} {d : PyData} {ds es : List PyData}
theorem Rp.int_inv {i : Int} (h : Rp F v (.int i)) : v = .int i := by cases h; rfl
theorem Rp.bl_inv {b : Bool} (h : Rp F v (.bool b)) : v = .bl b := by cases h; rfl
theorem Rp.str_inv {x : Str} (h : Rp F v (.str x)) : v = .str x := by cases h; rfl
theorem Rp.non_inv (h : Rp F v .none) : v = .non := by cases h; rfl
theorem Rp.lst_inv (h : Rp F v (.list ds)) : ∃ a xs, v = .ref a ∧ F a = some (.lst xs) ∧ RpAll F xs ds := by
  cases h with
  | lst h a => exact ⟨_, _, rfl, h, a⟩
theorem Rp.tup_inv (h : Rp F v (.tuple ds)) : ∃ a xs, v = .ref a ∧ F a = some (.tup xs) ∧ RpAll F xs ds := by
  cases h with
  | tup h a => exact ⟨_, _, rfl, h, a⟩
theorem RpAll.length (h : RpAll F vs ds) : vs.length = ds.length := by
  induction ds generalizing vs with
  | nil => cases h; rfl
  | cons d ds ih => cases h with | cons h a => rw [List.length_cons, List.length_cons, ih a]
theorem RpAll.get : ∀ {vs : List V} {ds : List PyData} {i : Nat} {d : PyData}, RpAll F vs ds → ds[i]? = some d → ∃ v, vs[i]? = some v ∧ Rp F v d
  | _, _, i, d, .nil, e => by simp at e
  | _, _, 0, d, .cons h a, e => ⟨_, rfl, by simp at e; subst e; exact h⟩
  | _, _, i + 1, d, .cons h a, e => by
    obtain ⟨v, h1, h2⟩ := RpAll.get (i := i) (d := d) a (by simpa using e)
    exact ⟨v, by simpa using h1, h2⟩
theorem RpAll.append : ∀ {vs ws : List V} {ds es : List PyData}, RpAll F vs ds → RpAll F ws es → RpAll F (vs ++ ws) (ds ++ es)
  | _, _, _, _, .nil, b => b
  | _, _, _, _, .cons h a, b => .cons h (RpAll.append a b)
theorem RpAll.one (h : Rp F v d) : RpAll F [v] [d] := .cons h .nil
theorem RpAll.set : ∀ {vs : List V} {ds : List PyData} (i : Nat) {v : V} {d : PyData}, RpAll F vs ds → Rp F v d → RpAll F (vs.set i v) (ds.set i d)
  | _, _, _, _, _, .nil, _ => .nil
  | _, _, 0, _, _, .cons _ a, r => .cons r a
  | _, _, i + 1, _, _, .cons h a, r => .cons h (RpAll.set i a r)
theorem RpAll.take : ∀ {vs : List V} {ds : List PyData} (n : Nat), RpAll F vs ds → RpAll F (vs.take n) (ds.take n)
  | _, _, 0, _ => .nil
  | _, _, _ + 1, .nil => .nil
  | _, _, n + 1, .cons h a => .cons h (RpAll.take n a)
theorem RpAll.drop : ∀ {vs : List V} {ds : List PyData} (n : Nat), RpAll F vs ds → RpAll F (vs.drop n) (ds.drop n)
  | _, _, 0, a => a
  | _, _, _ + 1, .nil => .nil
  | _, _, n + 1, .cons _ a => RpAll.drop n a
theorem RpAll.eraseIdx : ∀ {vs : List V} {ds : List PyData} (n : Nat), RpAll F vs ds → RpAll F (vs.eraseIdx n) (ds.eraseIdx n)
  | _, _, _, .nil => .nil
  | _, _, 0, .cons _ a => a
  | _, _, n + 1, .cons h a => .cons h (RpAll.eraseIdx n a)
theorem RpAll.reverse (h : RpAll F vs ds) : RpAll F vs.reverse ds.reverse := by
  induction ds generalizing vs with
  | nil => cases h; exact .nil
  | cons d ds ih => cases h with | cons h a => rw [List.reverse_cons, List.reverse_cons]; exact (ih a).append (.one h)
theorem RpAll.ints : ∀ {vs : List V} {ns : List Int}, RpAll F vs (ns.map .int) → vs = ns.map V.int
  | _, [], .nil => rfl
  | _, n :: ns, .cons h a => by rw [h.int_inv, a.ints]; rfl
theorem RpAll.of_ints : ∀ (ns : List Int), RpAll F (ns.map V.int) (ns.map .int)
  | [] => .nil
  | n :: ns => .cons (.int n) (RpAll.of_ints ns)
theorem RpAll.bls : ∀ {vs : List V} {bs : List Bool}, RpAll F vs (bs.map .bool) → vs = bs.map V.bl
  | _, [], .nil => rfl
  | _, n :: ns, .cons h a => by rw [h.bl_inv, a.bls]; rfl
theorem RpAll.flat : ∀ {vs : List V} {ds : List PyData}, RpAll F vs ds → (∀ d ∈ ds, ∀ es, d ≠ .list es ∧ d ≠ .tuple es) → vs.all flatV = true
  | _, _, .nil, _ => rfl
  | _, _, .cons h a, n => by
    rw [List.all_cons, RpAll.flat a fun d hd => n d (List.mem_cons_of_mem _ hd), Bool.and_true]
    cases h with
    | non => rfl
    | bl b => rfl
    | int i => rfl
    | str x => rfl
    | lst h a => exact absurd rfl (n _ List.mem_cons_self _).1
    | tup h a => exact absurd rfl (n _ List.mem_cons_self _).2
end

/-! ### worlds: F what stands for good, H all that is tracked; S what a pool's draws may change -/
structure Grow (S : List Addr) (F H F' H' : Hp) : Prop where
  ff : Sub F F'
  fh : Sub F' H'
  hh : ∀ a o, a ∉ S → H a = some o → H' a = some o
  th : ∀ a, H a ≠ none → H' a ≠ none
  nw : ∀ a, H a ≠ none → F a = none → F' a = none
section
variable {S : List Addr} {F H F' H' F'' H'' : Hp} {p : Addr} {o : HO}
theorem Grow.refl (s : Sub F H) : Grow S F H F H := ⟨Sub.refl F, s, fun _ _ _ h => h, fun _ h => h, fun _ _ h => h⟩
theorem Grow.trans (a : Grow S F H F' H') (b : Grow S F' H' F'' H'') : Grow S F H F'' H'' :=
  ⟨a.ff.trans b.ff, b.fh, fun x o n h => b.hh x o n (a.hh x o n h), fun x h => b.th x (a.th x h), fun x h n => b.nw x (a.th x h) (a.nw x h n)⟩
theorem Grow.weak (a : Grow [] F H F' H') : Grow S F H F' H' := ⟨a.ff, a.fh, fun x o _ h => a.hh x o (by simp) h, a.th, a.nw⟩
theorem Grow.sub (a : Grow [] F H F' H') : Sub H H' := fun x o h => a.hh x o (by simp) h
theorem Grow.fresh (a : Grow S F H F' H') (h : H' p = none) : H p = none := by
  cases q : H p with
  | none => rfl
  | some u => exact absurd h (a.th p (by rw [q]; exact fun z => nomatch z))
theorem Sub.none (s : Sub F H) (h : H p = none) : F p = none := by
  cases q : F p with
  | none => rfl
  | some u => rw [s p u q] at h; cases h
theorem upd_th {a : Addr} (h : H a ≠ none) : upd H p o a ≠ none := by
  by_cases e : a = p
  · subst e; rw [upd_same]; exact fun z => nomatch z
  · rw [upd_ne e]; exact h
theorem upd_sub (s : Sub F H) : Sub (upd F p o) (upd H p o) := fun a u e => by
  by_cases z : a = p
  · subst z; rw [upd_same] at e ⊢; exact e
  · rw [upd_ne z] at e ⊢; exact s a u e
/-- a new object that stands for good -/
theorem Grow.new (s : Sub F H) (h : H p = none) : Grow S F H (upd F p o) (upd H p o) :=
  ⟨Sub.new (s.none h), upd_sub s, fun a u _ e => Sub.new h a u e, fun a e => upd_th e, fun a e n => by
    by_cases z : a = p
    · subst z; exact absurd h e
    · rw [upd_ne z]; exact n⟩
/-- a new object that may change -/
theorem Grow.newM (s : Sub F H) (h : H p = none) : Grow S F H F (upd H p o) :=
  ⟨Sub.refl F, s.trans (Sub.new h), fun a u _ e => Sub.new h a u e, fun a e => upd_th e, fun _ _ n => n⟩
/-- a changing object stands for good from now on -/
theorem Grow.freeze (g : Grow S F H F' H') (h : H p = none) (h' : H' p = some o) (hf : F' p = none) : Grow S F H (upd F' p o) H' :=
  ⟨g.ff.trans (Sub.new hf), fun a u e => by
    by_cases z : a = p
    · subst z; rw [upd_same] at e; cases e; exact h'
    · rw [upd_ne z] at e; exact g.fh a u e, g.hh, g.th, fun a e n => by
    by_cases z : a = p
    · subst z; exact absurd h e
    · rw [upd_ne z]; exact g.nw a e n⟩
/-- an own object is changed -/
theorem Grow.mut (g : Grow S F H F' H') (h : H p = none) (hf : F' p = none) : Grow S F H F' (upd H' p o) :=
  ⟨g.ff, fun a u e => by
    have z : a ≠ p := fun z => by subst z; rw [hf] at e; cases e
    rw [upd_ne z]; exact g.fh a u e, fun a u n e => by
    have z : a ≠ p := fun z => by subst z; rw [h] at e; cases e
    rw [upd_ne z]; exact g.hh a u n e, fun a e => upd_th (g.th a e), g.nw⟩
theorem Grow.chain {B : Hp} {F0 F1 H1 : Hp} (a : Grow S F0 B F1 H1) (b : Grow S F1 B F H) : Grow S F0 B F H :=
  ⟨a.ff.trans b.ff, b.fh, b.hh, b.th, fun x h n => b.nw x h (a.nw x h n)⟩
theorem Grow.start (a : Grow S F H F' H') : Grow S F' H F' H' := ⟨Sub.refl _, a.fh, a.hh, a.th, fun _ _ n => n⟩
end

/-- a pool: the addresses that its draws change, the list itself, what is true of it -/
structure Pc where
  S : List Addr
  p : Addr
  PI : Hp → Prop
  loc : ∀ H H' : Hp, (∀ a ∈ S, H' a = H a) → PI H → PI H'
def pc0 : Pc := ⟨[], 0, fun _ => True, fun _ _ _ _ => trivial⟩
structure Wd (C : Pc) (F H : Hp) : Prop where
  sub : Sub F H
  pi : C.PI H
  sF : ∀ a ∈ C.S, F a = none
  sH : ∀ a ∈ C.S, H a ≠ none
section
variable {C : Pc} {B F H F' H' : Hp} {p : Addr} {o : HO}
theorem Wd.grow (w : Wd C F H) (g : Grow [] F H F' H') : Wd C F' H' :=
  ⟨g.fh, C.loc H H' (fun a ha => by
    cases q : H a with
    | none => exact absurd q (w.sH a ha)
    | some u => exact g.sub a u q) w.pi, fun a ha => g.nw a (w.sH a ha) (w.sF a ha), fun a ha => g.th a (w.sH a ha)⟩
theorem wd0 (s : Sub F H) : Wd pc0 F H := ⟨s, trivial, fun a h => (List.not_mem_nil h).elim, fun a h => (List.not_mem_nil h).elim⟩
theorem Wd.mut (w : Wd C F H) (hp : p ∉ C.S) (hf : F p = none) : Wd C F (upd H p o) :=
  ⟨fun a u e => by
    have z : a ≠ p := fun z => by subst z; rw [hf] at e; cases e
    rw [upd_ne z]; exact w.sub a u e, C.loc H _ (fun a ha => upd_ne fun z => hp (z ▸ ha)) w.pi, w.sF, fun a ha => upd_th (w.sH a ha)⟩
theorem Wd.freeze (w : Wd C F H) (hp : p ∉ C.S) (h : H p = some o) (hf : F p = none) : Wd C (upd F p o) H :=
  ⟨fun a u e => by
    by_cases z : a = p
    · subst z; rw [upd_same] at e; cases e; exact h
    · rw [upd_ne z] at e; exact w.sub a u e, w.pi, fun a ha => by
    have z : a ≠ p := fun z => hp (z ▸ ha)
    rw [upd_ne z]; exact w.sF a ha, w.sH⟩
end

/-! ### what the slots hold -/
/-- a list that nobody changes: frozen, or an object of the module -/
def FzL (K : PySem.W.Frag) (S : List Addr) (H : Hp) (a : Addr) (xs : List V) : Prop := (∃ o, H a = some (.frz o (.lst xs)) ∧ a ∉ S) ∨
  ∃ (o : Obj) (its : Array Value) (n : Nat), K.lookup a = some o ∧ o.cls = .type "list" ∧ o.dict = none ∧ o.data = .seq its n ∧ its.size ≤ sizeLine ∧ Vals xs its.toList
inductive Sl where
  | no | dat (d : PyData) | own (ds : List PyData) | pool | fz (K : PySem.W.Frag) (a : Addr) (xs : List V) | ref (a : Addr)
def SlOk (C : Pc) (B F H : Hp) (x : Option (Option V)) : Sl → Prop
  | .no => True
  | .dat d => ∃ v, x = some (some v) ∧ Rp F v d
  | .own ds => ∃ p vs, x = some (some (.ref p)) ∧ H p = some (.lst vs) ∧ F p = none ∧ B p = none ∧ p ∉ C.S ∧ RpAll F vs ds
  | .pool => x = some (some (.ref C.p))
  | .fz K a xs => x = some (some (.ref a)) ∧ FzL K C.S H a xs
  | .ref a => x = some (some (.ref a))
structure Gm (C : Pc) (B F H : Hp) (σ : L2.St) (Γ : List Sl) : Prop where
  len : Γ.length = σ.length
  ok : ∀ (i : Nat) (s : Sl), Γ[i]? = some s → SlOk C B F H σ[i]? s
  inj : ∀ (i j : Nat) (ds es : List PyData) (p : Addr), Γ[i]? = some (.own ds) → Γ[j]? = some (.own es) → σ[i]? = some (some (.ref p)) → σ[j]? = some (some (.ref p)) → i = j
section
variable {C : Pc} {B F H F' H' : Hp} {σ : L2.St} {Γ : List Sl} {i : Nat} {v : V} {d : PyData} {ds : List PyData} {p : Addr}
theorem SlOk.grow {x : Option (Option V)} {s : Sl} (k : SlOk C B F H x s) (g : Grow C.S F H F' H') : SlOk C B F' H' x s := by
  cases s with
  | no => trivial
  | dat d => obtain ⟨v, e, r⟩ := k; exact ⟨v, e, r.mono g.ff⟩
  | own ds =>
    obtain ⟨p, vs, e, h, f, b, n, r⟩ := k
    exact ⟨p, vs, e, g.hh p _ n h, g.nw p (by rw [h]; exact fun z => nomatch z) f, b, n, r.mono g.ff⟩
  | pool => exact k
  | fz K a xs => exact ⟨k.1, k.2.imp (fun ⟨o, h, n⟩ => ⟨o, g.hh a _ n h, n⟩) id⟩
  | ref a => exact k
theorem Gm.grow (E : Gm C B F H σ Γ) (g : Grow C.S F H F' H') : Gm C B F' H' σ Γ := ⟨E.len, fun i s e => (E.ok i s e).grow g, E.inj⟩
theorem Gm.set (E : Gm C B F H σ Γ) {s : Sl} (k : SlOk C B F H (some (some v)) s)
    (n : ∀ ds, s = .own ds → ∀ (j : Nat) es p, v = .ref p → Γ[j]? = some (.own es) → σ[j]? ≠ some (some (.ref p))) : Gm C B F H (σ.set i (some v)) (Γ.set i s) := by
  refine ⟨by rw [List.length_set, List.length_set, E.len], fun j t e => ?_, fun j m ds es p e1 e2 e3 e4 => ?_⟩
  · rw [List.getElem?_set] at e ⊢
    by_cases hj : i = j
    · subst hj
      rw [if_pos rfl] at e ⊢
      by_cases hl : i < Γ.length
      · rw [if_pos hl] at e
        rw [if_pos (E.len ▸ hl)]
        cases e
        exact k
      · rw [if_neg hl] at e; cases e
    · rw [if_neg hj] at e ⊢
      exact E.ok j t e
  · rw [List.getElem?_set] at e1 e2 e3 e4
    by_cases hj : i = j
    · by_cases hk : i = m
      · exact hj.symm.trans hk
      · subst hj
        rw [if_pos rfl] at e1 e3
        rw [if_neg hk] at e2 e4
        by_cases hl : i < Γ.length
        · rw [if_pos hl] at e1
          rw [if_pos (E.len ▸ hl)] at e3
          cases e1
          cases e3
          exact absurd e4 (n _ rfl m es p rfl e2)
        · rw [if_neg hl] at e1; cases e1
    · by_cases hk : i = m
      · subst hk
        rw [if_pos rfl] at e2 e4
        rw [if_neg hj] at e1 e3
        by_cases hl : i < Γ.length
        · rw [if_pos hl] at e2
          rw [if_pos (E.len ▸ hl)] at e4
          cases e2
          cases e4
          exact absurd e3 (n _ rfl j ds p rfl e1)
        · rw [if_neg hl] at e2; cases e2
      · rw [if_neg hj] at e1 e3
        rw [if_neg hk] at e2 e4
        exact E.inj j m ds es p e1 e2 e3 e4
theorem Gm.dat (E : Gm C B F H σ Γ) (r : Rp F v d) : Gm C B F H (σ.set i (some v)) (Γ.set i (.dat d)) := E.set ⟨v, rfl, r⟩ fun _ z => nomatch z
/-- a slot forgotten -/
theorem Gm.forget (E : Gm C B F H σ Γ) (x : Option V) : Gm C B F H (σ.set i x) (Γ.set i .no) := by
  refine ⟨by rw [List.length_set, List.length_set, E.len], fun j t e => ?_, fun j k ds es p e1 e2 e3 e4 => ?_⟩
  · rw [List.getElem?_set] at e ⊢
    by_cases hj : i = j
    · subst hj
      rw [if_pos rfl] at e
      by_cases hl : i < Γ.length
      · rw [if_pos hl] at e; cases e; trivial
      · rw [if_neg hl] at e; cases e
    · rw [if_neg hj] at e ⊢
      exact E.ok j t e
  · rw [List.getElem?_set] at e1 e2 e3 e4
    by_cases hj : i = j
    · subst hj
      rw [if_pos rfl] at e1
      by_cases hl : i < Γ.length
      · rw [if_pos hl] at e1; cases e1
      · rw [if_neg hl] at e1; cases e1
    · by_cases hk : i = k
      · subst hk
        rw [if_pos rfl] at e2
        by_cases hl : i < Γ.length
        · rw [if_pos hl] at e2; cases e2
        · rw [if_neg hl] at e2; cases e2
      · rw [if_neg hj] at e1 e3
        rw [if_neg hk] at e2 e4
        exact E.inj j k ds es p e1 e2 e3 e4
def wipeG (Γ : List Sl) : List Nat → List Sl
  | [] => Γ
  | v :: vs => (wipeG Γ vs).set v .no
theorem Gm.wipe (E : Gm C B F H σ Γ) : ∀ vs : List Nat, Gm C B F H (L2.wipe σ vs) (wipeG Γ vs)
  | [] => E
  | _ :: vs => (Gm.wipe E vs).forget none
theorem Gm.get (E : Gm C B F H σ Γ) (h : Γ[i]? = some (.dat d)) : ∃ v, σ[i]? = some (some v) ∧ Rp F v d := E.ok i _ h
/-- the own list of slot i is changed -/
theorem Gm.mut (E : Gm C B F H σ Γ) {vs : List V} {es : List PyData} (h : Γ[i]? = some (.own ds)) (hp : σ[i]? = some (some (.ref p))) (r : RpAll F vs es) : Gm C B F (upd H p (.lst vs)) σ (Γ.set i (.own es)) := by
  obtain ⟨p', vs', e', h', f', b', n', r'⟩ := E.ok i _ h
  have ep : p' = p := by rw [hp] at e'; cases e'; rfl
  subst ep
  refine ⟨by rw [List.length_set, E.len], fun j t e => ?_, fun j k ds es p e1 e2 e3 e4 => ?_⟩
  · rw [List.getElem?_set] at e
    by_cases hj : i = j
    · subst hj
      rw [if_pos rfl] at e
      by_cases hl : i < Γ.length
      · rw [if_pos hl] at e
        cases e
        exact ⟨p', vs, hp, upd_same, f', b', n', r⟩
      · rw [if_neg hl] at e; cases e
    · rw [if_neg hj] at e
      have k := E.ok j t e
      cases t with
      | no => trivial
      | dat d => exact k
      | own fs =>
        obtain ⟨q, us, e1, h1, f1, b1, n1, r1⟩ := k
        have nq : q ≠ p' := fun z => hj (E.inj i j ds fs p' h e hp (z ▸ e1))
        exact ⟨q, us, e1, (upd_ne nq).trans h1, f1, b1, n1, r1⟩
      | pool => exact k
      | fz K a xs =>
        refine ⟨k.1, k.2.imp (fun ⟨o, h, n⟩ => ⟨o, ?_, n⟩) id⟩
        have na : a ≠ p' := fun z => by
          subst z
          have z2 := h.symm.trans h'
          cases z2
        exact (upd_ne na).trans h
      | ref a => exact k
  · rw [List.getElem?_set] at e1 e2
    have back : ∀ (m : Nat) (xs : List PyData), (if i = m then if i < Γ.length then some (Sl.own es) else none else Γ[m]?) = some (.own xs) → ∃ ys, Γ[m]? = some (.own ys) := fun m xs q => by
      by_cases hm : i = m
      · subst hm; exact ⟨_, h⟩
      · rw [if_neg hm] at q; exact ⟨_, q⟩
    rename_i ds0
    have b1 : ∃ ys, Γ[j]? = some (.own ys) := by
      by_cases hm : i = j
      · subst hm; exact ⟨_, h⟩
      · rw [if_neg hm] at e1; exact ⟨_, e1⟩
    have b2 : ∃ ys, Γ[k]? = some (.own ys) := by
      by_cases hm : i = k
      · subst hm; exact ⟨_, h⟩
      · rw [if_neg hm] at e2; exact ⟨_, e2⟩
    obtain ⟨ys, y1⟩ := b1
    obtain ⟨zs, y2⟩ := b2
    exact E.inj j k ys zs p y1 y2 e3 e4
end
end Eh

namespace Eh
open PySem PySem.Spec PyProof.Rows L2
/-! ### a tuple once, and no times -/
theorem tuple_mul1 (l : Addr) (items : Array Value) (n : Nat) (dd : Option Addr) (sl : Array (Option Value)) (u : Tok) :
    Meets (Builtin.«tuple.__mul__» ⟨[.ref l, .int 1 u], []⟩) (fun _ R s => s.heap.get? l = some { cls := .type "tuple", dict := dd, data := .seq items n, slots := sl } ∧ R (.ok (.ret (Value.ref l))) s) :=
  .of_wp fun prog w A R s h => by
    obtain ⟨hp, g, d, tk, os⟩ := s
    obtain ⟨hl, h⟩ := h
    have f1 := AutoSeq1.idx_int
    wp_walk using wpAny_loadPart' hl
    repeat (first
      | (refine wpAny_ite_false (by first | decide | rfl) ?_; wp_walk using wpAny_loadPart' hl)
      | (refine wpAny_ite_true (decide_eq_true (by first | decide | rfl | simp)) ?_; wp_walk using wpAny_loadPart' hl))
    exact ⟨_, rfl, h⟩
theorem tuple_mul0 (l : Addr) (items : Array Value) (n : Nat) (dd : Option Addr) (sl : Array (Option Value)) (u : Tok) (c1 : (items.isEmpty || (0 : Int) == 1) = false) :
    Meets (Builtin.«tuple.__mul__» ⟨[.ref l, .int 0 u], []⟩) (fun _ R s => s.heap.get? l = some { cls := .type "tuple", dict := dd, data := .seq items n, slots := sl } ∧
      R (.ok (.ret (Value.ref s.heap.objs.size))) { s with heap := s.heap.push { cls := Value.type "tuple", data := Data.seq #[] }, toks := s.toks }) :=
  .of_wp fun prog w A R s h => by
    obtain ⟨hp, g, d, tk, os⟩ := s
    obtain ⟨hl, h⟩ := h
    have f1 := AutoSeq1.idx_int
    wp_walk using wpAny_loadPart' hl
    repeat (first
      | (refine wpAny_ite_false (by first | decide | rfl) ?_; wp_walk using wpAny_loadPart' hl)
      | (refine wpAny_ite_false (decide_eq_false (by rw [c1]; exact Bool.false_ne_true)) ?_; wp_walk using wpAny_loadPart' hl)
      | (refine wpAny_ite_true (decide_eq_true (by first | decide | rfl | simp)) ?_; wp_walk using wpAny_loadPart' hl))
    exact ⟨_, rfl, h⟩
def rRep01 (K : PySem.W.Frag) : R2 := fun x y H Q => ∃ l k xs, x = .ref l ∧ y = .int k ∧ SqT K H l xs ∧ xs ≠ [] ∧ (k = 1 ∧ Q (.ref l) H ∨ k = 0 ∧ ∀ p, H p = none → Q (.ref p) (upd H p (.tup [])))
theorem op_rep01 {X : Cx} : OpR X (binaryOp .Mult) (rRep01 X.K) := by
  intro pins s σ H x y v u Q I rx ry h
  obtain ⟨l, k, xs, rfl, rfl, hT, hne, h⟩ := h
  cases rx
  obtain ⟨t, rfl⟩ := ry
  obtain ⟨its, r, ⟨⟨cls, dd, data, sl⟩, ho, hc, n, hd⟩, hs⟩ := I.tuple hT
  simp only at hc hd
  subst hc hd
  have hle : its.length = xs.length := r.length.symm
  have hn : its ≠ [] := fun e => hne (by
    rw [e] at hle
    exact List.eq_nil_of_length_eq_zero hle.symm)
  have hi : its.toArray.isEmpty = false := by
    cases its with
    | nil => exact absurd rfl hn
    | cons a b => rfl
  rcases h with ⟨rfl, q⟩ | ⟨rfl, q⟩
  · exact wpAny_binaryOp_repeat_ref (T := "tuple") (U := "int") (by decide) ⟨_, ho, rfl⟩ (fun s' => typeIs_int s' 1 t) noFill_tuple_mul F.fills_int_mul F.slot_int_rmul repeat_tuple F.slot_int_index.lookup
      (call_meets F.slot_int_rmul (typeIs_int s 1 t) F.entry_int_rmul (F.args_int_rmul_2 _ _) (int_rmul_tuple 1 t l its.toArray n dd sl)
        ⟨ho, rfl, ⟨_, ho, rfl⟩, call_meets F.slot_tuple_mul ⟨_, ho, rfl⟩ F.entry_tuple_mul (F.args_tuple_mul_2 _ _) (tuple_mul1 l its.toArray n dd sl t) ⟨ho, ⟨.ref l, H, I, rfl, q⟩⟩⟩)
  · refine wpAny_binaryOp_repeat_ref (T := "tuple") (U := "int") (by decide) ⟨_, ho, rfl⟩ (fun s' => typeIs_int s' 0 t) noFill_tuple_mul F.fills_int_mul F.slot_int_rmul repeat_tuple F.slot_int_index.lookup
      (call_meets F.slot_int_rmul (typeIs_int s 0 t) F.entry_int_rmul (F.args_int_rmul_2 _ _) (int_rmul_tuple 0 t l its.toArray n dd sl)
        ⟨ho, rfl, ⟨_, ho, rfl⟩, call_meets F.slot_tuple_mul ⟨_, ho, rfl⟩ F.entry_tuple_mul (F.args_tuple_mul_2 _ _) (tuple_mul0 l its.toArray n dd sl t (by rw [hi]; rfl)) ⟨ho, ?_⟩⟩)
    refine ⟨.ref s.heap.objs.size, _, I.laid (t' := s.toks) (o := .tup []) (fun b ob q => Heap.get?_push_of_some _ q) (Nat.le_refl _) ?_, rfl, q _ (I.hok.fresh (Nat.le_refl _))⟩
    exact ⟨by rw [sizeLine_eq]; exact Nat.zero_le _, [], .nil, IsTup.new _ _⟩
end Eh

namespace Eh
open PySem PySem.Spec PyProof.Rows L2

/-! ### what an expression gives: data -/
def EvP (te : TE) (Γ : List Sl) (P : Hp → Hp → V → Hp → Hp → Prop) : Prop :=
  ∀ (C : Pc) (B F H : Hp) (σ : L2.St), Wd C F H → Gm C B F H σ Γ → ∀ Q : VK, (∀ v F' H', Grow [] F H F' H' → P F H v F' H' → Q v H') → te σ H Q
def EvD (te : TE) (Γ : List Sl) (d : PyData) : Prop := EvP te Γ fun _ _ v F' _ => Rp F' v d
/-- a new list -/
def EvN (te : TE) (Γ : List Sl) (ds : List PyData) : Prop :=
  EvP te Γ fun _ H v F' H' => ∃ p vs, v = .ref p ∧ H p = none ∧ F' p = none ∧ H' p = some (.lst vs) ∧ RpAll F' vs ds
/-- a list to be read; a list or tuple -/
def RdL (te : TE) (Γ : List Sl) (ds : List PyData) : Prop :=
  EvP te Γ fun _ _ v F' H' => ∃ p vs, v = .ref p ∧ H' p = some (.lst vs) ∧ RpAll F' vs ds
def RdS (te : TE) (Γ : List Sl) (ds : List PyData) : Prop :=
  EvP te Γ fun _ _ v F' H' => ∃ p vs, v = .ref p ∧ (H' p = some (.lst vs) ∨ H' p = some (.tup vs)) ∧ RpAll F' vs ds
def EvT (tt : TT) (Γ : List Sl) (b : Bool) : Prop :=
  ∀ (C : Pc) (B F H : Hp) (σ : L2.St), Wd C F H → Gm C B F H σ Γ → ∀ Q : Bool → Hp → Prop, (∀ F' H', Grow [] F H F' H' → Q b H') → tt σ H Q
def EvA (ta : TA) (Γ : List Sl) (ds : List PyData) : Prop :=
  ∀ (C : Pc) (B F H : Hp) (σ : L2.St), Wd C F H → Gm C B F H σ Γ → ∀ Q : List V → Hp → Prop, (∀ vs F' H', Grow [] F H F' H' → RpAll F' vs ds → Q vs H') → ta σ H Q
section
variable {te ta tb : TE} {Γ : List Sl} {d x y : PyData} {ds es : List PyData}
theorem EvP.imp {P P' : Hp → Hp → V → Hp → Hp → Prop} (h : EvP te Γ P) (i : ∀ C F H v F' H', Wd C F H → Grow [] F H F' H' → P F H v F' H' → P' F H v F' H') : EvP te Γ P' :=
  fun C B F H σ w g Q q => h C B F H σ w g Q fun v F' H' gr p => q v F' H' gr (i C F H v F' H' w gr p)
theorem EvD.is (h : EvD te Γ x) (e : x = y) : EvD te Γ y := e ▸ h
theorem EvN.is (h : EvN te Γ ds) (e : ds = es) : EvN te Γ es := e ▸ h
theorem EvT.is {tt : TT} {a b : Bool} (h : EvT tt Γ a) (e : a = b) : EvT tt Γ b := e ▸ h
/-- a new list stands for good -/
theorem EvN.fz (h : EvN te Γ ds) : EvD te Γ (.list ds) := fun C B F H σ w g Q q =>
  h C B F H σ w g Q fun v F' H' gr ⟨p, vs, e, n, f, l, r⟩ => by
    subst e
    exact q _ (upd F' p (.lst vs)) H' (gr.freeze n l f) (.lst upd_same (r.mono (Sub.new f)))
theorem EvN.rl (h : EvN te Γ ds) : RdL te Γ ds := h.imp fun _ _ _ _ _ _ _ _ ⟨p, vs, e, _, _, l, r⟩ => ⟨p, vs, e, l, r⟩
theorem RdL.s (h : RdL te Γ ds) : RdS te Γ ds := h.imp fun _ _ _ _ _ _ _ _ ⟨p, vs, e, l, r⟩ => ⟨p, vs, e, .inl l, r⟩
theorem EvD.rl (h : EvD te Γ (.list ds)) : RdL te Γ ds := h.imp fun _ _ _ _ _ _ _ gr r => by
  obtain ⟨a, xs, e, f, ra⟩ := Rp.lst_inv r
  exact ⟨a, xs, e, gr.fh _ _ f, ra⟩
theorem EvD.rt (h : EvD te Γ (.tuple ds)) : RdS te Γ ds := h.imp fun _ _ _ _ _ _ _ gr r => by
  obtain ⟨a, xs, e, f, ra⟩ := Rp.tup_inv r
  exact ⟨a, xs, e, .inr (gr.fh _ _ f), ra⟩

/-! ### names, constants -/
theorem ev_var {i : Nat} (h : Γ[i]? = some (.dat d)) : EvD (tVar i) Γ d := fun C B F H σ w g Q q => by
  obtain ⟨v, e, r⟩ := g.get h
  exact ⟨v, e, q v F H (.refl w.sub) r⟩
theorem rl_own {i : Nat} (h : Γ[i]? = some (.own ds)) : RdL (tVar i) Γ ds := fun C B F H σ w g Q q => by
  obtain ⟨p, vs, e, l, f, b, n, r⟩ := g.ok i _ h
  exact ⟨_, e, q _ F H (.refl w.sub) ⟨p, vs, rfl, l, r⟩⟩
theorem ev_int {i : Int} : EvD (tC (.int i)) Γ (.int i) := fun C B F H σ w g Q q => q _ F H (.refl w.sub) (.int i)
theorem ev_bl {b : Bool} : EvD (tC (.bl b)) Γ (.bool b) := fun C B F H σ w g Q q => q _ F H (.refl w.sub) (.bl b)
theorem ev_non : EvD (tC .non) Γ .none := fun C B F H σ w g Q q => q _ F H (.refl w.sub) .non
theorem ev_str {s : Str} : EvD (tC (.str s)) Γ (.str s) := fun C B F H σ w g Q q => q _ F H (.refl w.sub) (.str s)

/-! ### operators -/
def RV (r : R2) (x y d : PyData) : Prop :=
  ∀ F H v u, Sub F H → Rp F v x → Rp F u y → ∀ Q : VK, (∀ z F' H', Grow [] F H F' H' → Rp F' z d → Q z H') → r v u H Q
theorem ev_op {r : R2} (ha : EvD ta Γ x) (hb : EvD tb Γ y) (hr : RV r x y d) : EvD (tOp r ta tb) Γ d := fun C B F H σ w g Q q =>
  ha C B F H σ w g _ fun v F1 H1 g1 r1 => hb C B F1 H1 σ (w.grow g1) (g.grow g1.weak) _ fun u F2 H2 g2 r2 =>
    hr F2 H2 v u g2.fh (r1.mono g2.ff) r2 Q fun z F3 H3 g3 r3 => q z F3 H3 ((g1.trans g2).trans g3) r3
/-- two lists, each read; a list and data; data and a list -/
theorem ev_opLL {r : R2} {P : Hp → Hp → V → Hp → Hp → Prop} (ha : RdL ta Γ ds) (hb : RdL tb Γ es)
    (hr : ∀ F0 H0 F H p q vs us, Grow [] F0 H0 F H → H p = some (.lst vs) → H q = some (.lst us) → RpAll F vs ds → RpAll F us es → ∀ Q : VK, (∀ z F' H', Grow [] F H F' H' → P F0 H0 z F' H' → Q z H') → r (.ref p) (.ref q) H Q) :
    EvP (tOp r ta tb) Γ P := fun C B F H σ w g Q q =>
  ha C B F H σ w g _ fun v F1 H1 g1 ⟨p, vs, e1, h1, r1⟩ => hb C B F1 H1 σ (w.grow g1) (g.grow g1.weak) _ fun u F2 H2 g2 ⟨p2, us, e2, h2, r2⟩ => by
    subst e1 e2
    exact hr F H F2 H2 p p2 vs us (g1.trans g2) (g2.sub _ _ h1) h2 (r1.mono g2.ff) r2 Q fun z F3 H3 g3 r3 => q z F3 H3 ((g1.trans g2).trans g3) r3
theorem ev_opSD {r : R2} {P : Hp → Hp → V → Hp → Hp → Prop} (ha : RdS ta Γ ds) (hb : EvD tb Γ y)
    (hr : ∀ F0 H0 F H p vs u, Grow [] F0 H0 F H → (H p = some (.lst vs) ∨ H p = some (.tup vs)) → RpAll F vs ds → Rp F u y → ∀ Q : VK, (∀ z F' H', Grow [] F H F' H' → P F0 H0 z F' H' → Q z H') → r (.ref p) u H Q) :
    EvP (tOp r ta tb) Γ P := fun C B F H σ w g Q q =>
  ha C B F H σ w g _ fun v F1 H1 g1 ⟨p, vs, e1, h1, r1⟩ => hb C B F1 H1 σ (w.grow g1) (g.grow g1.weak) _ fun u F2 H2 g2 r2 => by
    subst e1
    exact hr F H F2 H2 p vs u (g1.trans g2) (h1.imp (g2.sub _ _) (g2.sub _ _)) (r1.mono g2.ff) r2 Q fun z F3 H3 g3 r3 => q z F3 H3 ((g1.trans g2).trans g3) r3
theorem ev_opDS {r : R2} {P : Hp → Hp → V → Hp → Hp → Prop} (ha : EvD ta Γ x) (hb : RdS tb Γ ds)
    (hr : ∀ F0 H0 F H v p us, Grow [] F0 H0 F H → Rp F v x → (H p = some (.lst us) ∨ H p = some (.tup us)) → RpAll F us ds → ∀ Q : VK, (∀ z F' H', Grow [] F H F' H' → P F0 H0 z F' H' → Q z H') → r v (.ref p) H Q) :
    EvP (tOp r ta tb) Γ P := fun C B F H σ w g Q q =>
  ha C B F H σ w g _ fun v F1 H1 g1 r1 => hb C B F1 H1 σ (w.grow g1) (g.grow g1.weak) _ fun u F2 H2 g2 ⟨p, us, e2, h2, r2⟩ => by
    subst e2
    exact hr F H F2 H2 v p us (g1.trans g2) (r1.mono g2.ff) h2 r2 Q fun z F3 H3 g3 r3 => q z F3 H3 ((g1.trans g2).trans g3) r3
end

theorem size_ok {n : Nat} (h : n ≤ 100000) : n ≤ sizeLine := Nat.le_trans h (by decide)
theorem size_lt {n : Nat} (h : n < 100000) : n < sizeLine := Nat.lt_of_lt_of_le h (by decide)

/-! ### + -/
def rAddA (K : PySem.W.Frag) : R2 := fun x y H Q => rI0 (fun i j => .int (i + j)) x y H Q ∨ rCat x y H Q ∨ rCatA K x y H Q
def rSubI : R2 := rI0 fun i j => .int (i - j)
def rMulA (K : PySem.W.Frag) : R2 := fun x y H Q => rI CMul (fun i j => .int (i * j)) x y H Q ∨ rRep x y H Q ∨ rRepT K x y H Q ∨ rRep01 K x y H Q
def rModI : R2 := rI (fun _ j => 0 < j) fun i j => .int (i % j)
def rDivI : R2 := rI CDiv fun i j => .int (i / j)
def rPowI : R2 := rI CPow fun i j => .int (i ^ j.toNat)
def rShlI : R2 := rI CPow fun i j => .int (i * 2 ^ j.toNat)
def rShrI : R2 := rI (fun _ j => 0 ≤ j) fun i j => .int (i / 2 ^ j.toNat)
def rAndI : R2 := rI0 fun i j => .int (Builtin.bitAnd i j)
def rOrI : R2 := rI0 fun i j => .int (Builtin.bitOr i j)
def rXorI : R2 := rI0 fun i j => .int (Builtin.bitXor i j)
def rLtI : R2 := rI0 fun i j => .bl (decide (i < j))
def rLeI : R2 := rI0 fun i j => .bl (decide (i ≤ j))
def rGtI : R2 := rI0 fun i j => .bl (decide (j < i))
def rGeI : R2 := rI0 fun i j => .bl (decide (j ≤ i))
/-- ==: None, bools, ints, texts by value; data of any depth -/
def rEqA (K : PySem.W.Frag) : R2 := fun x y H Q => rEq x y H Q ∨ rEqD K x y H Q
def rNeA (K : PySem.W.Frag) : R2 := fun x y H Q => rNe x y H Q ∨ rNeD K x y H Q
def rIsN : R2 := fun x y H Q => y = .non ∧ Q (.bl (decide (x = .non))) H
def rNotN : R2 := fun x y H Q => y = .non ∧ Q (.bl (!decide (x = .non))) H
def rNegI : V → Hp → VK → Prop := rU fun i => .int (-i)
section
variable {X : Cx}
theorem oAdd : OpR X (binaryOp .Add) (rAddA X.K) := op_add.or (op_cat.or op_catA)
theorem oSub : OpR X (binaryOp .Sub) rSubI := op_sub
theorem oMul : OpR X (binaryOp .Mult) (rMulA X.K) := op_mul.or (op_rep.or (op_repT.or op_rep01))
theorem oMod : OpR X (binaryOp .Mod) rModI := op_mod
theorem oDiv : OpR X (binaryOp .FloorDiv) rDivI := op_fdiv
theorem oPow : OpR X (binaryOp .Pow) rPowI := op_pow
theorem oShl : OpR X (binaryOp .LShift) rShlI := op_shl
theorem oShr : OpR X (binaryOp .RShift) rShrI := op_shr
theorem oAnd : OpR X (binaryOp .BitAnd) rAndI := op_and
theorem oOr : OpR X (binaryOp .BitOr) rOrI := op_or
theorem oXor : OpR X (binaryOp .BitXor) rXorI := op_xor
theorem oLt : OpR X (compareOp .Lt) rLtI := op_lt
theorem oLe : OpR X (compareOp .LtE) rLeI := op_le
theorem oGt : OpR X (compareOp .Gt) rGtI := op_gt
theorem oGe : OpR X (compareOp .GtE) rGeI := op_ge
theorem oEq (hu : X.A.units + 64 < cLine) : OpR X (compareOp .Eq) (rEqA X.K) := op_eq.or (op_eqD hu)
theorem oNe (hu : X.A.units + 64 < cLine) : OpR X (compareOp .NotEq) (rNeA X.K) := op_ne.or (op_neD hu)
theorem oIsN : OpR X (compareOp .Is) rIsN := op_isN
theorem oNotN : OpR X (compareOp .IsNot) rNotN := op_notN
theorem uNeg : UnR X (unaryOp .USub) rNegI := un_neg
end
section
variable {te ta tb tc : TE} {Γ : List Sl} {d x y : PyData} {ds es : List PyData} {K : PySem.W.Frag}
theorem rv_I0 {g : Int → Int → V} {i j : Int} {d : PyData} (h : ∀ F, Rp F (g i j) d) : RV (rI0 g) (.int i) (.int j) d := fun F H v u s r1 r2 Q q => by
  rw [r1.int_inv, r2.int_inv]
  exact ⟨i, j, rfl, rfl, q _ F H (.refl s) (h F)⟩
theorem rv_I {c : Int → Int → Prop} {g : Int → Int → V} {i j : Int} {d : PyData} (hc : c i j) (h : ∀ F, Rp F (g i j) d) : RV (rI c g) (.int i) (.int j) d := fun F H v u s r1 r2 Q q => by
  rw [r1.int_inv, r2.int_inv]
  exact ⟨i, j, rfl, rfl, hc, q _ F H (.refl s) (h F)⟩
theorem ev_add {i j : Int} (ha : EvD ta Γ (.int i)) (hb : EvD tb Γ (.int j)) : EvD (tOp (rAddA K) ta tb) Γ (.int (i + j)) :=
  ev_op ha hb fun F H v u s r1 r2 Q q => .inl (rv_I0 (g := fun i j => .int (i + j)) (fun F => .int _) F H v u s r1 r2 Q q)
theorem ev_sub {i j : Int} (ha : EvD ta Γ (.int i)) (hb : EvD tb Γ (.int j)) : EvD (tOp rSubI ta tb) Γ (.int (i - j)) := ev_op ha hb (rv_I0 fun F => .int _)
theorem ev_mul {i j : Int} (ha : EvD ta Γ (.int i)) (hb : EvD tb Γ (.int j)) (hc : CMul i j) : EvD (tOp (rMulA K) ta tb) Γ (.int (i * j)) :=
  ev_op ha hb fun F H v u s r1 r2 Q q => .inl (rv_I (g := fun i j => .int (i * j)) hc (fun F => .int _) F H v u s r1 r2 Q q)
theorem ev_mod {i j : Int} (ha : EvD ta Γ (.int i)) (hb : EvD tb Γ (.int j)) (hc : 0 < j) : EvD (tOp rModI ta tb) Γ (.int (i % j)) := ev_op ha hb (rv_I hc fun F => .int _)
theorem ev_div {i j : Int} (ha : EvD ta Γ (.int i)) (hb : EvD tb Γ (.int j)) (hc : CDiv i j) : EvD (tOp rDivI ta tb) Γ (.int (i / j)) := ev_op ha hb (rv_I hc fun F => .int _)
theorem ev_pow {i j : Int} (ha : EvD ta Γ (.int i)) (hb : EvD tb Γ (.int j)) (hc : CPow i j) : EvD (tOp rPowI ta tb) Γ (.int (i ^ j.toNat)) := ev_op ha hb (rv_I hc fun F => .int _)
theorem ev_shl {i j : Int} (ha : EvD ta Γ (.int i)) (hb : EvD tb Γ (.int j)) (hc : CPow i j) : EvD (tOp rShlI ta tb) Γ (.int (i * 2 ^ j.toNat)) := ev_op ha hb (rv_I hc fun F => .int _)
theorem ev_shr {i j : Int} (ha : EvD ta Γ (.int i)) (hb : EvD tb Γ (.int j)) (hc : 0 ≤ j) : EvD (tOp rShrI ta tb) Γ (.int (i / 2 ^ j.toNat)) := ev_op ha hb (rv_I hc fun F => .int _)
theorem ev_band {i j : Int} (ha : EvD ta Γ (.int i)) (hb : EvD tb Γ (.int j)) : EvD (tOp rAndI ta tb) Γ (.int (Builtin.bitAnd i j)) := ev_op ha hb (rv_I0 fun F => .int _)
theorem ev_bor {i j : Int} (ha : EvD ta Γ (.int i)) (hb : EvD tb Γ (.int j)) : EvD (tOp rOrI ta tb) Γ (.int (Builtin.bitOr i j)) := ev_op ha hb (rv_I0 fun F => .int _)
theorem ev_bxor {i j : Int} (ha : EvD ta Γ (.int i)) (hb : EvD tb Γ (.int j)) : EvD (tOp rXorI ta tb) Γ (.int (Builtin.bitXor i j)) := ev_op ha hb (rv_I0 fun F => .int _)
theorem ev_lt {i j : Int} (ha : EvD ta Γ (.int i)) (hb : EvD tb Γ (.int j)) : EvD (tOp rLtI ta tb) Γ (.bool (decide (i < j))) := ev_op ha hb (rv_I0 fun F => .bl _)
theorem ev_le {i j : Int} (ha : EvD ta Γ (.int i)) (hb : EvD tb Γ (.int j)) : EvD (tOp rLeI ta tb) Γ (.bool (decide (i ≤ j))) := ev_op ha hb (rv_I0 fun F => .bl _)
theorem ev_gt {i j : Int} (ha : EvD ta Γ (.int i)) (hb : EvD tb Γ (.int j)) : EvD (tOp rGtI ta tb) Γ (.bool (decide (j < i))) := ev_op ha hb (rv_I0 fun F => .bl _)
theorem ev_ge {i j : Int} (ha : EvD ta Γ (.int i)) (hb : EvD tb Γ (.int j)) : EvD (tOp rGeI ta tb) Γ (.bool (decide (j ≤ i))) := ev_op ha hb (rv_I0 fun F => .bl _)
theorem ev_neg {i : Int} (ha : EvD ta Γ (.int i)) : EvD (tUn rNegI ta) Γ (.int (-i)) := fun C B F H σ w g Q q =>
  ha C B F H σ w g _ fun v F1 H1 g1 r1 => by
    rw [Rp.int_inv r1]
    exact ⟨i, rfl, q _ F1 H1 g1 (.int _)⟩
theorem ev_eqI {i j : Int} (ha : EvD ta Γ (.int i)) (hb : EvD tb Γ (.int j)) : EvD (tOp (rEqA K) ta tb) Γ (.bool (decide (i = j))) :=
  ev_op ha hb fun F H v u s r1 r2 Q q => by
    rw [r1.int_inv, r2.int_inv]
    refine .inl ⟨rfl, ?_⟩
    rw [show decide (V.int i = V.int j) = decide (i = j) by rw [dec_int, Bool.beq_eq_decide_eq]]
    exact q _ F H (.refl s) (.bl _)
theorem ev_neI {i j : Int} (ha : EvD ta Γ (.int i)) (hb : EvD tb Γ (.int j)) : EvD (tOp (rNeA K) ta tb) Γ (.bool (!decide (i = j))) :=
  ev_op ha hb fun F H v u s r1 r2 Q q => by
    rw [r1.int_inv, r2.int_inv]
    refine .inl ⟨rfl, ?_⟩
    rw [show decide (V.int i = V.int j) = decide (i = j) by rw [dec_int, Bool.beq_eq_decide_eq]]
    exact q _ F H (.refl s) (.bl _)
theorem ev_eqB {i j : Bool} (ha : EvD ta Γ (.bool i)) (hb : EvD tb Γ (.bool j)) : EvD (tOp (rEqA K) ta tb) Γ (.bool (decide (i = j))) :=
  ev_op ha hb fun F H v u s r1 r2 Q q => by
    rw [r1.bl_inv, r2.bl_inv]
    refine .inl ⟨rfl, ?_⟩
    rw [show decide (V.bl i = V.bl j) = decide (i = j) by rw [dec_bl, Bool.beq_eq_decide_eq]]
    exact q _ F H (.refl s) (.bl _)
theorem ev_neB {i j : Bool} (ha : EvD ta Γ (.bool i)) (hb : EvD tb Γ (.bool j)) : EvD (tOp (rNeA K) ta tb) Γ (.bool (!decide (i = j))) :=
  ev_op ha hb fun F H v u s r1 r2 Q q => by
    rw [r1.bl_inv, r2.bl_inv]
    refine .inl ⟨rfl, ?_⟩
    rw [show decide (V.bl i = V.bl j) = decide (i = j) by rw [dec_bl, Bool.beq_eq_decide_eq]]
    exact q _ F H (.refl s) (.bl _)
/-- data of any depth -/
theorem ev_eqD (ha : EvD ta Γ x) (hb : EvD tb Γ y) (h1 : SeqAt.shaped x = true) (h2 : SeqAt.shaped y = true) : EvD (tOp (rEqA K) ta tb) Γ (.bool (PyData.eqv x y)) :=
  ev_op ha hb fun F H v u s r1 r2 Q q => .inr ⟨x, y, (r1.mono s).dp, (r2.mono s).dp, h1, h2, q _ F H (.refl s) (.bl _)⟩
theorem ev_neD (ha : EvD ta Γ x) (hb : EvD tb Γ y) (h1 : SeqAt.shaped x = true) (h2 : SeqAt.shaped y = true) : EvD (tOp (rNeA K) ta tb) Γ (.bool (!PyData.eqv x y)) :=
  ev_op ha hb fun F H v u s r1 r2 Q q => .inr ⟨x, y, (r1.mono s).dp, (r2.mono s).dp, h1, h2, q _ F H (.refl s) (.bl _)⟩
def isNon : PyData → Bool | .none => true | _ => false
theorem Rp.isNon {F : Hp} {v : V} {d : PyData} (r : Rp F v d) : decide (v = .non) = isNon d := by
  cases r <;> rfl
theorem ev_isN (ha : EvD ta Γ x) : EvD (tOp rIsN ta (tC .non)) Γ (.bool (isNon x)) :=
  ev_op ha ev_non fun F H v u s r1 r2 Q q => ⟨r2.non_inv, by rw [r1.isNon]; exact q _ F H (.refl s) (.bl _)⟩
theorem ev_notN (ha : EvD ta Γ x) : EvD (tOp rNotN ta (tC .non)) Γ (.bool (!isNon x)) :=
  ev_op ha ev_non fun F H v u s r1 r2 Q q => ⟨r2.non_inv, by rw [r1.isNon]; exact q _ F H (.refl s) (.bl _)⟩
/-- lists joined -/
theorem en_cat (ha : RdL ta Γ ds) (hb : RdL tb Γ es) (hz : ds.length + es.length ≤ 100000) : EvN (tOp (rAddA K) ta tb) Γ (ds ++ es) :=
  ev_opLL ha hb fun F0 H0 F H p q vs us g0 h1 h2 r1 r2 Q k =>
    .inr (.inl ⟨p, q, vs, us, rfl, rfl, h1, h2, by rw [r1.length, r2.length]; exact size_ok hz, fun l hl =>
      k _ F _ (.newM g0.fh hl) ⟨l, _, rfl, g0.fresh hl, g0.fh.none hl, upd_same, r1.append r2⟩⟩)
/-- tuples joined -/
theorem ev_catT (ha : EvD ta Γ (.tuple ds)) (hb : EvD tb Γ (.tuple es)) (hz : ds.length + es.length ≤ 100000) : EvD (tOp (rAddA K) ta tb) Γ (.tuple (ds ++ es)) :=
  ev_op ha hb fun F H v u s r1 r2 Q q => by
    obtain ⟨a, xs, rfl, h1, q1⟩ := r1.tup_inv
    obtain ⟨b, ys, rfl, h2, q2⟩ := r2.tup_inv
    refine .inr (.inr ⟨a, b, xs, ys, rfl, rfl, SqT.of (s _ _ h1), SqT.of (s _ _ h2), by rw [q1.length, q2.length]; exact size_ok hz, fun e => ?_, fun _ e => ?_, fun _ _ p hp => ?_⟩)
    · subst e; cases q1
      exact q _ F H (.refl s) (.tup h2 q2)
    · subst e; cases q2
      exact q _ F H (.refl s) (by rw [List.append_nil]; exact .tup h1 q1)
    · exact q _ _ _ (.new s hp) (.tup upd_same ((q1.append q2).mono (Sub.new (s.none hp))))
/-- a tuple, several times -/
theorem ev_repT {k : Int} (ha : EvD ta Γ (.tuple ds)) (hb : EvD tb Γ (.int k)) (hn : ds ≠ []) (h1 : 2 ≤ k) (h2 : k ≤ 1000) (hz : ds.length ≤ 1000) : EvD (tOp (rMulA K) ta tb) Γ (.tuple (List.replicate k.toNat ds).flatten) :=
  ev_op ha hb fun F H v u s r1 r2 Q q => by
    obtain ⟨a, xs, rfl, e1, q1⟩ := r1.tup_inv
    rw [r2.int_inv]
    refine .inr (.inr (.inl ⟨a, k, xs, rfl, rfl, SqT.of (s _ _ e1), fun e => hn ?_, h1, h2, by rw [q1.length]; exact hz, fun p hp => ?_⟩))
    · subst e; cases q1; rfl
    · refine q _ _ _ (.new s hp) (.tup upd_same (RpAll.mono (Sub.new (s.none hp)) ?_))
      generalize k.toNat = n
      induction n with
      | zero => exact .nil
      | succ n ih => rw [List.replicate_succ, List.replicate_succ, List.flatten_cons, List.flatten_cons]; exact q1.append ih
/-- .. any number of times -/
theorem ev_repA {k : Nat} (ha : EvD ta Γ (.tuple ds)) (hb : EvD tb Γ (.int (k : Int))) (hn : ds ≠ []) (h2 : k ≤ 1000) (hz : ds.length ≤ 1000) : EvD (tOp (rMulA K) ta tb) Γ (.tuple (List.replicate k ds).flatten) := by
  by_cases h : 2 ≤ k
  · have := ev_repT (K := K) ha hb hn (by omega) (by omega) hz
    rwa [Int.toNat_natCast] at this
  · exact ev_op ha hb fun F H v u s r1 r2 Q q => by
      obtain ⟨a, xs, rfl, e1, q1⟩ := r1.tup_inv
      rw [r2.int_inv]
      refine .inr (.inr (.inr ⟨a, k, xs, rfl, rfl, SqT.of (s _ _ e1), fun e => hn (by subst e; cases q1; rfl), ?_⟩))
      match k, h with
      | 0, _ => exact .inr ⟨rfl, fun p hp => q _ _ _ (.new s hp) (.tup upd_same .nil)⟩
      | 1, _ => exact .inl ⟨rfl, q _ F H (.refl s) (by show Rp F _ (.tuple (ds ++ [])); rw [List.append_nil]; exact .tup e1 q1)⟩
      | n + 2, h => exact absurd (by omega) h
end

/-! ### and, or, not, tests -/
section
variable {te ta tb tc : TE} {Γ : List Sl} {d x y : PyData} {t u : TT} {a b : Bool} {K : PySem.W.Frag}
theorem et_B (h : EvD te Γ (.bool b)) : EvT (tB te) Γ b := fun C B F H σ w g Q q => h C B F H σ w g _ fun v F1 H1 g1 r1 => ⟨b, Rp.bl_inv r1, q F1 H1 g1⟩
theorem et_test (h : EvD te Γ (.bool b)) : EvT (tTest te) Γ b := fun C B F H σ w g Q q => h C B F H σ w g _ fun v F1 H1 g1 r1 => ⟨b, Rp.bl_inv r1, q F1 H1 g1⟩
theorem et_not (h : EvT t Γ a) : EvT (tNot t) Γ (!a) := fun C B F H σ w g Q q => h C B F H σ w g _ fun F1 H1 g1 => q F1 H1 g1
theorem et_yes : EvT tYes Γ true := fun C B F H σ w g Q q => q F H (.refl w.sub)
theorem et_and (h1 : EvT t Γ a) (h2 : a = true → EvT u Γ b) : EvT (tAnd t u) Γ (a && b) := fun C B F H σ w g Q q => h1 C B F H σ w g _ fun F1 H1 g1 => by
  cases a with
  | true =>
    show u σ H1 Q
    exact h2 rfl C B F1 H1 σ (w.grow g1) (g.grow g1.weak) Q fun F2 H2 g2 => q F2 H2 (g1.trans g2)
  | false =>
    show Q false H1
    exact q F1 H1 g1
theorem et_or (h1 : EvT t Γ a) (h2 : a = false → EvT u Γ b) : EvT (tOr t u) Γ (a || b) := fun C B F H σ w g Q q => h1 C B F H σ w g _ fun F1 H1 g1 => by
  cases a with
  | true =>
    show Q true H1
    exact q F1 H1 g1
  | false =>
    show u σ H1 Q
    exact h2 rfl C B F1 H1 σ (w.grow g1) (g.grow g1.weak) Q fun F2 H2 g2 => q F2 H2 (g1.trans g2)
theorem ev_andV (h1 : EvD ta Γ (.bool a)) (h2 : a = true → EvD tb Γ (.bool b)) : EvD (tAndV ta tb) Γ (.bool (a && b)) := fun C B F H σ w g Q q => h1 C B F H σ w g _ fun v F1 H1 g1 r1 => ⟨a, Rp.bl_inv r1, by
  cases a with
  | true =>
    show tb σ H1 Q
    exact h2 rfl C B F1 H1 σ (w.grow g1) (g.grow g1.weak) Q fun v F2 H2 g2 r2 => q v F2 H2 (g1.trans g2) r2
  | false =>
    show Q (.bl false) H1
    exact q _ F1 H1 g1 (.bl _)⟩
theorem ev_orV (h1 : EvD ta Γ (.bool a)) (h2 : a = false → EvD tb Γ (.bool b)) : EvD (tOrV ta tb) Γ (.bool (a || b)) := fun C B F H σ w g Q q => h1 C B F H σ w g _ fun v F1 H1 g1 r1 => ⟨a, Rp.bl_inv r1, by
  cases a with
  | true =>
    show Q (.bl true) H1
    exact q _ F1 H1 g1 (.bl _)
  | false =>
    show tb σ H1 Q
    exact h2 rfl C B F1 H1 σ (w.grow g1) (g.grow g1.weak) Q fun v F2 H2 g2 r2 => q v F2 H2 (g1.trans g2) r2⟩
theorem ev_notV (h1 : EvD ta Γ (.bool a)) : EvD (tNotV ta) Γ (.bool (!a)) := fun C B F H σ w g Q q => h1 C B F H σ w g _ fun v F1 H1 g1 r1 => ⟨a, Rp.bl_inv r1, q _ F1 H1 g1 (.bl _)⟩
theorem ev_if (h : EvT t Γ b) (h1 : b = true → EvD ta Γ x) (h2 : b = false → EvD tb Γ y) : EvD (tIf t ta tb) Γ (if b = true then x else y) := fun C B F H σ w g Q q => h C B F H σ w g _ fun F1 H1 g1 => by
  cases b with
  | true =>
    show ta σ H1 Q
    exact h1 rfl C B F1 H1 σ (w.grow g1) (g.grow g1.weak) Q fun v F2 H2 g2 r2 => q v F2 H2 (g1.trans g2) r2
  | false =>
    show tb σ H1 Q
    exact h2 rfl C B F1 H1 σ (w.grow g1) (g.grow g1.weak) Q fun v F2 H2 g2 r2 => q v F2 H2 (g1.trans g2) r2
/-- a op b op c -/
theorem ev_chain {r r' : R2} {z : PyData} (ha : EvD ta Γ x) (hb : EvD tb Γ y) (hr : RV r x y (.bool a)) (hc : a = true → EvD tc Γ z) (hr' : a = true → RV r' y z (.bool b)) : EvD (tChain r r' ta tb tc) Γ (.bool (a && b)) := fun C B F H σ w g Q q =>
  ha C B F H σ w g _ fun v F1 H1 g1 r1 => hb C B F1 H1 σ (w.grow g1) (g.grow g1.weak) _ fun u F2 H2 g2 r2 =>
    hr F2 H2 v u g2.fh (r1.mono g2.ff) r2 _ fun z' F3 H3 g3 r3 => ⟨a, Rp.bl_inv r3, by
      have w3 := ((w.grow g1).grow g2).grow g3
      have e3 : Gm C B F3 H3 σ Γ := ((g.grow g1.weak).grow g2.weak).grow g3.weak
      cases a with
      | true =>
        show tc σ H3 _
        exact hc rfl C B F3 H3 σ w3 e3 _ fun z4 F4 H4 g4 r4 => hr' rfl F4 H4 u z4 g4.fh ((r2.mono g3.ff).mono g4.ff) r4 Q fun z5 F5 H5 g5 r5 => q z5 F5 H5 ((((g1.trans g2).trans g3).trans g4).trans g5) r5
      | false =>
        show Q (.bl false) H3
        exact q _ F3 H3 ((g1.trans g2).trans g3) (.bl _)⟩
theorem rv_le {i j : Int} : RV rLeI (.int i) (.int j) (.bool (decide (i ≤ j))) := rv_I0 fun F => .bl _
theorem rv_lt {i j : Int} : RV rLtI (.int i) (.int j) (.bool (decide (i < j))) := rv_I0 fun F => .bl _

/-! ### arguments, displays -/
theorem ea_nil : EvA tNil Γ [] := fun C B F H σ w g Q q => q [] F H (.refl w.sub) .nil
theorem ea_cons {tr : TA} {ds : List PyData} (h : EvD te Γ d) (hr : EvA tr Γ ds) : EvA (tCons te tr) Γ (d :: ds) := fun C B F H σ w g Q q =>
  h C B F H σ w g _ fun v F1 H1 g1 r1 => hr C B F1 H1 σ (w.grow g1) (g.grow g1.weak) _ fun vs F2 H2 g2 r2 => q _ F2 H2 (g1.trans g2) (.cons (r1.mono g2.ff) r2)
theorem ev_tup {ts : TA} {ds : List PyData} (h : EvA ts Γ ds) (hz : ds.length ≤ 100000) : EvD (tTup ts) Γ (.tuple ds) := fun C B F H σ w g Q q =>
  h C B F H σ w g _ fun vs F1 H1 g1 r1 => ⟨by rw [r1.length]; exact size_ok hz, fun p hp => q _ _ _ (g1.trans (.new g1.fh hp)) (.tup upd_same (r1.mono (Sub.new (g1.fh.none hp))))⟩
theorem en_lst {ts : TA} {ds : List PyData} (h : EvA ts Γ ds) (hz : ds.length ≤ 100000) : EvN (tLst ts) Γ ds := fun C B F H σ w g Q q =>
  h C B F H σ w g _ fun vs F1 H1 g1 r1 => ⟨by rw [r1.length]; exact size_ok hz, fun p hp => q _ F1 _ (g1.trans (.newM g1.fh hp)) ⟨p, vs, rfl, g1.fresh hp, g1.fh.none hp, upd_same, r1⟩⟩
end
end Eh

namespace Eh
open PySem PySem.Spec PyProof.Rows L2

/-! ### what a def is to do -/
inductive Out where
  | ok (d : PyData)
  | err (c : Addr) (f : Option (List (Str × V)))
def XcOk (c : Addr) (f : Option (List (Str × V))) (cv : Value) (dd : Option Addr) (H : Hp) : Prop :=
  cv = .ref c ∧ match f with
    | none => dd = none
    | some fs => ∃ p, dd = some p ∧ H p = some (.xd fs)
def spR (R : List PyData → Out → Prop) : Sp := fun vs H Q E => ∃ F ds o, Sub F H ∧ RpAll F vs ds ∧ R ds o ∧
  (∀ d, o = .ok d → ∀ v F' H', Grow [] F H F' H' → Rp F' v d → Q v H') ∧
  (∀ c f, o = .err c f → ∀ cv dd F' H', Grow [] F H F' H' → XcOk c f cv dd H' → E cv dd H')
/-- .. that hands back a new list -/
def spN (R : List PyData → List PyData → Prop) : Sp := fun vs H Q _ => ∃ F ds es, Sub F H ∧ RpAll F vs ds ∧ R ds es ∧
  ∀ p us F' H', Grow [] F H F' H' → H p = none → F' p = none → H' p = some (.lst us) → RpAll F' us es → Q (.ref p) H'
def EvX (te : TE) (Γ : List Sl) (E : XK) (c : Addr) (f : Option (List (Str × V))) : Prop :=
  ∀ (C : Pc) (B F H : Hp) (σ : L2.St), Wd C F H → Gm C B F H σ Γ → ∀ Q : VK, (∀ cv dd F' H', Grow [] F H F' H' → XcOk c f cv dd H' → E cv dd H') → te σ H Q
section
variable {te : TE} {ta : TA} {Γ : List Sl} {d x y : PyData} {ds es : List PyData} {R : List PyData → Out → Prop} {E : XK} {K : PySem.W.Frag}
theorem ev_call (h : EvA ta Γ ds) (hR : R ds (.ok d)) : EvD (tCall (spR R) [] E ta) Γ d := fun C B F H σ w g Q q =>
  h C B F H σ w g _ fun vs F1 H1 g1 r1 => ⟨F1, ds, .ok d, g1.fh, by rw [List.append_nil]; exact r1, hR, fun d' e v F2 H2 g2 r2 => by cases e; exact q v F2 H2 (g1.trans g2) r2, fun c f e => nomatch e⟩
theorem ex_call {c : Addr} {f : Option (List (Str × V))} (h : EvA ta Γ ds) (hR : R ds (.err c f)) : EvX (tCall (spR R) [] E ta) Γ E c f := fun C B F H σ w g Q q =>
  h C B F H σ w g _ fun vs F1 H1 g1 r1 => ⟨F1, ds, .err c f, g1.fh, by rw [List.append_nil]; exact r1, hR, (fun d' e => nomatch e), fun c' f' e cv dd F2 H2 g2 x => by cases e; exact q cv dd F2 H2 (g1.trans g2) x⟩
theorem en_call {R : List PyData → List PyData → Prop} (h : EvA ta Γ ds) (hR : R ds es) : EvN (tCall (spN R) [] E ta) Γ es := fun C B F H σ w g Q q =>
  h C B F H σ w g _ fun vs F1 H1 g1 r1 => ⟨F1, ds, es, g1.fh, by rw [List.append_nil]; exact r1, hR, fun p us F2 H2 g2 n f l r => q _ F2 H2 (g1.trans g2) ⟨p, us, rfl, g1.fresh n, f, l, r⟩⟩
end

/-! ### built-ins -/
def rLenA (K : PySem.W.Frag) : List V → Hp → VK → Prop := fun xs H Q => (∃ p ys, xs = [.ref p] ∧ (SqL K H p ys ∨ SqT K H p ys) ∧ Q (.int ys.length) H) ∨ ∃ z, xs = [.str z] ∧ z.length ≤ sizeLine ∧ Q (.int z.length) H
def rListA (K : PySem.W.Frag) : List V → Hp → VK → Prop := fun xs H Q => ∃ p ys, xs = [.ref p] ∧ (SqL K H p ys ∨ SqT K H p ys) ∧ ∀ l, H l = none → Q (.ref l) (upd H l (.lst ys))
def rIntA : List V → Hp → VK → Prop := fun xs H Q => (∃ i, xs = [.int i] ∧ Q (.int i) H) ∨ ∃ k, xs = [.bl k] ∧ Q (.int (if k then 1 else 0)) H
def rMin2 : List V → Hp → VK → Prop := fun xs H Q => ∃ i j, xs = [.int i, .int j] ∧ Q (.int (if j < i then j else i)) H
def rMax2 : List V → Hp → VK → Prop := fun xs H Q => ∃ i j, xs = [.int i, .int j] ∧ Q (.int (if j > i then j else i)) H
def rAbsA : List V → Hp → VK → Prop := fun xs H Q => ∃ i, xs = [.int i] ∧ Q (.int (if i < 0 then -i else i)) H
def rStrI : List V → Hp → VK → Prop := fun xs H Q => ∃ i, xs = [.int i] ∧ i.natAbs.log2 < 1920 ∧ Q (.str (toString i)) H
section
variable {X : Cx}
theorem cLen : CallR X (.builtin "len") (rLenA X.K) := call_len_seq.or call_len_str
theorem cList : CallR X (.type "list") (rListA X.K) := call_list_of
theorem cInt : CallR X (.type "int") rIntA := call_int1
theorem cMin2 (hc : X.calm = true) : CallR X (.builtin "min") rMin2 := call_min2 hc
theorem cMax2 (hc : X.calm = true) : CallR X (.builtin "max") rMax2 := call_max2 hc
theorem cAbs : CallR X (.builtin "abs") rAbsA := call_abs
theorem cStr : CallR X (.type "str") rStrI := call_str_int
end
section
variable {te ta tb : TE} {Γ : List Sl} {d x y : PyData} {ds es : List PyData} {K : PySem.W.Frag} {ts : TA}
theorem ev_len (h : RdS ta Γ ds) : EvD (tCB (rLenA K) (tCons ta tNil)) Γ (.int ds.length) := fun C B F H σ w g Q q =>
  h C B F H σ w g _ fun v F1 H1 g1 ⟨p, vs, e, l, r⟩ => by
    subst e
    refine .inl ⟨p, vs, rfl, l.imp SqL.of SqT.of, ?_⟩
    rw [r.length]
    exact q _ F1 H1 g1 (.int _)
theorem ev_lenS {z : Str} (h : EvD ta Γ (.str z)) (hz : z.length ≤ 100000) : EvD (tCB (rLenA K) (tCons ta tNil)) Γ (.int z.length) := fun C B F H σ w g Q q =>
  h C B F H σ w g _ fun v F1 H1 g1 r => by
    rw [Rp.str_inv r]
    exact .inr ⟨z, rfl, size_ok hz, q _ F1 H1 g1 (.int _)⟩
theorem en_list (h : RdS ta Γ ds) : EvN (tCB (rListA K) (tCons ta tNil)) Γ ds := fun C B F H σ w g Q q =>
  h C B F H σ w g _ fun v F1 H1 g1 ⟨p, vs, e, l, r⟩ => by
    subst e
    exact ⟨p, vs, rfl, l.imp SqL.of SqT.of, fun l hl => q _ F1 _ (g1.trans (.newM g1.fh hl)) ⟨l, vs, rfl, g1.fresh hl, g1.fh.none hl, upd_same, r⟩⟩
theorem ev_tuple (h : RdS ta Γ ds) (hT : EvD ta Γ (.tuple ds) ∨ RdL ta Γ ds) : EvD (tThen ta (kTup K)) Γ (.tuple ds) := by
  rcases hT with hT | hT
  · exact fun C B F H σ w g Q q => hT C B F H σ w g _ fun v F1 H1 g1 r1 => by
      obtain ⟨a, xs, rfl, f, ra⟩ := Rp.tup_inv r1
      exact .inr ⟨a, xs, rfl, SqT.of (g1.fh _ _ f), q _ F1 H1 g1 r1⟩
  · exact fun C B F H σ w g Q q => hT C B F H σ w g _ fun v F1 H1 g1 ⟨p, vs, e, l, r⟩ => by
      subst e
      exact .inl ⟨p, vs, rfl, SqL.of l, fun t ht => q _ _ _ (g1.trans (.new g1.fh ht)) (.tup upd_same (r.mono (Sub.new (g1.fh.none ht))))⟩
theorem ev_tupleL (h : RdL ta Γ ds) : EvD (tThen ta (kTup K)) Γ (.tuple ds) := ev_tuple h.s (.inr h)
theorem ev_tupleT (h : EvD ta Γ (.tuple ds)) : EvD (tThen ta (kTup K)) Γ (.tuple ds) := ev_tuple h.rt (.inl h)
theorem ev_cint {i : Int} (h : EvD ta Γ (.int i)) : EvD (tCB rIntA (tCons ta tNil)) Γ (.int i) := fun C B F H σ w g Q q =>
  h C B F H σ w g _ fun v F1 H1 g1 r => by
    rw [Rp.int_inv r]
    exact .inl ⟨i, rfl, q _ F1 H1 g1 (.int _)⟩
theorem ev_cintB {b : Bool} (h : EvD ta Γ (.bool b)) : EvD (tCB rIntA (tCons ta tNil)) Γ (.int (if b then 1 else 0)) := fun C B F H σ w g Q q =>
  h C B F H σ w g _ fun v F1 H1 g1 r => by
    rw [Rp.bl_inv r]
    exact .inr ⟨b, rfl, q _ F1 H1 g1 (.int _)⟩
theorem ev_min2 {i j : Int} (ha : EvD ta Γ (.int i)) (hb : EvD tb Γ (.int j)) : EvD (tCB rMin2 (tCons ta (tCons tb tNil))) Γ (.int (if j < i then j else i)) := fun C B F H σ w g Q q =>
  ha C B F H σ w g _ fun v F1 H1 g1 r1 => hb C B F1 H1 σ (w.grow g1) (g.grow g1.weak) _ fun u F2 H2 g2 r2 => by
    rw [Rp.int_inv r1, Rp.int_inv r2]
    exact ⟨i, j, rfl, q _ F2 H2 (g1.trans g2) (.int _)⟩
theorem ev_max2 {i j : Int} (ha : EvD ta Γ (.int i)) (hb : EvD tb Γ (.int j)) : EvD (tCB rMax2 (tCons ta (tCons tb tNil))) Γ (.int (if j > i then j else i)) := fun C B F H σ w g Q q =>
  ha C B F H σ w g _ fun v F1 H1 g1 r1 => hb C B F1 H1 σ (w.grow g1) (g.grow g1.weak) _ fun u F2 H2 g2 r2 => by
    rw [Rp.int_inv r1, Rp.int_inv r2]
    exact ⟨i, j, rfl, q _ F2 H2 (g1.trans g2) (.int _)⟩
theorem ev_abs {i : Int} (h : EvD ta Γ (.int i)) : EvD (tCB rAbsA (tCons ta tNil)) Γ (.int (if i < 0 then -i else i)) := fun C B F H σ w g Q q =>
  h C B F H σ w g _ fun v F1 H1 g1 r => by
    rw [Rp.int_inv r]
    exact ⟨i, rfl, q _ F1 H1 g1 (.int _)⟩
theorem ev_cstr {i : Int} (h : EvD ta Γ (.int i)) (hi : i.natAbs.log2 < 1920) : EvD (tCB rStrI (tCons ta tNil)) Γ (.str (toString i)) := fun C B F H σ w g Q q =>
  h C B F H σ w g _ fun v F1 H1 g1 r => by
    rw [Rp.int_inv r]
    exact ⟨i, rfl, hi, q _ F1 H1 g1 (.str _)⟩
theorem ev_all {bs : List Bool} (h : RdL ta Γ (bs.map .bool)) : EvD (tCB (rAll K) (tCons ta tNil)) Γ (.bool (bs.all id)) := fun C B F H σ w g Q q =>
  h C B F H σ w g _ fun v F1 H1 g1 ⟨p, vs, e, l, r⟩ => by
    subst e
    exact ⟨p, bs, rfl, SqL.of (by rw [l, r.bls]), q _ F1 H1 g1 (.bl _)⟩
theorem ev_any {bs : List Bool} (h : RdL ta Γ (bs.map .bool)) : EvD (tCB (rAny K) (tCons ta tNil)) Γ (.bool (bs.any id)) := fun C B F H σ w g Q q =>
  h C B F H σ w g _ fun v F1 H1 g1 ⟨p, vs, e, l, r⟩ => by
    subst e
    exact ⟨p, bs, rfl, SqL.of (by rw [l, r.bls]), q _ F1 H1 g1 (.bl _)⟩
theorem ev_sumL {ns : List Int} (h : RdL ta Γ (ns.map .int)) : EvD (tCB (rSum K) (tCons ta tNil)) Γ (.int ns.sum) := fun C B F H σ w g Q q =>
  h C B F H σ w g _ fun v F1 H1 g1 ⟨p, vs, e, l, r⟩ => by
    subst e
    exact ⟨p, ns, rfl, SqL.of (by rw [l, r.ints]), q _ F1 H1 g1 (.int _)⟩
theorem ev_minL {ns : List Int} {m : Int} (h : RdL ta Γ (ns.map .int)) (h1 : m ∈ ns) (h2 : ∀ k ∈ ns, m ≤ k) : EvD (tCB (rMin K) (tCons ta tNil)) Γ (.int m) := fun C B F H σ w g Q q =>
  h C B F H σ w g _ fun v F1 H1 g1 ⟨p, vs, e, l, r⟩ => by
    subst e
    refine ⟨p, ns, rfl, SqL.of (by rw [l, r.ints]), List.length_pos_of_mem h1, fun k hk hl => ?_⟩
    have e : k = m := Int.le_antisymm (hl m h1) (h2 k hk)
    subst e
    exact q _ F1 H1 g1 (.int _)
theorem ev_maxL {ns : List Int} {m : Int} (h : RdL ta Γ (ns.map .int)) (h1 : m ∈ ns) (h2 : ∀ k ∈ ns, k ≤ m) : EvD (tCB (rMax K) (tCons ta tNil)) Γ (.int m) := fun C B F H σ w g Q q =>
  h C B F H σ w g _ fun v F1 H1 g1 ⟨p, vs, e, l, r⟩ => by
    subst e
    refine ⟨p, ns, rfl, SqL.of (by rw [l, r.ints]), List.length_pos_of_mem h1, fun k hk hl => ?_⟩
    have e : k = m := Int.le_antisymm (h2 k hk) (hl m h1)
    subst e
    exact q _ F1 H1 g1 (.int _)

/-! ### subscripts, in, slices -/
theorem ev_ix {i : Int} (ha : RdS ta Γ ds) (hb : EvD tb Γ (.int i)) (h : atI ds i = some d) : EvD (tOp (rIx K) ta tb) Γ d :=
  ev_opSD ha hb fun F0 H0 F H p vs u g0 hp r ru Q q => by
    rw [Rp.int_inv ru]
    obtain ⟨j, e1, e2⟩ : ∃ j, ixN ds.length i = some j ∧ ds[j]? = some d := by
      unfold atI at h
      cases e : ixN ds.length i with
      | none => rw [e] at h; cases h
      | some j => rw [e] at h; exact ⟨j, rfl, h⟩
    obtain ⟨v, h1, h2⟩ := r.get e2
    have a : atI vs i = some v := by unfold atI; rw [r.length, e1]; exact h1
    rcases hp with hp | hp
    · exact .inl ⟨p, vs, i, v, rfl, rfl, SqL.of hp, a, q v F H (.refl g0.fh) h2⟩
    · exact .inr (.inl ⟨p, vs, i, v, rfl, rfl, SqT.of hp, a, q v F H (.refl g0.fh) h2⟩)
theorem ev_ixN {n : Nat} (ha : RdS ta Γ ds) (hb : EvD tb Γ (.int (n : Int))) (h : ds[n]? = some d) : EvD (tOp (rIx K) ta tb) Γ d := ev_ix ha hb (atI_nat h)
def flatD : PyData → Bool | .list _ => false | .tuple _ => false | .dict _ => false | _ => true
theorem Rp.flat {F : Hp} {v : V} (r : Rp F v d) (h : flatD d = true) : flatV v = true := by
  cases r with
  | lst _ _ => cases h
  | tup _ _ => cases h
  | _ => rfl
theorem RpAll.flatD {F : Hp} {vs : List V} (r : RpAll F vs ds) (h : ds.all flatD = true) : vs.all flatV = true := by
  induction ds generalizing vs with
  | nil => cases r; rfl
  | cons d ds ih => cases r with | cons r1 r2 => rw [List.all_cons, Bool.and_eq_true] at h ⊢; exact ⟨r1.flat h.1, ih r2 h.2⟩

theorem eqV_eqv {F : Hp} {v u : V} {x y : PyData} (r : Rp F v x) (q : Rp F u y) (h : flatD x = true) (k : flatD y = true) : eqV v u = PyData.eqv x y := by
  cases r with
  | lst _ _ => cases h
  | tup _ _ => cases h
  | _ => cases q with
    | lst _ _ => cases k
    | tup _ _ => cases k
    | _ => rfl
theorem inV_eqv {F : Hp} {v : V} {vs : List V} (r : Rp F v x) (q : RpAll F vs ds) (h : flatD x = true) (k : ds.all flatD = true) : inV v vs = ds.any fun z => PyData.eqv z x := by
  unfold inV
  induction ds generalizing vs with
  | nil => cases q; rfl
  | cons d ds ih =>
    cases q with
    | cons r1 r2 =>
      rw [List.all_cons, Bool.and_eq_true] at k
      rw [List.any_cons, List.any_cons, eqV_eqv r1 r k.1 h, ih r2 k.2]
theorem ev_inF (ha : EvD ta Γ x) (hb : RdS tb Γ ds) (h : flatD x = true) (k : ds.all flatD = true) : EvD (tOp (rIn K false) ta tb) Γ (.bool (ds.any fun z => PyData.eqv z x)) :=
  ev_opDS ha hb fun F0 H0 F H v p us g0 rv hp r Q q => by
    refine ⟨p, us, rfl, hp.imp SqL.of SqT.of, rv.flat h, r.flatD k, ?_⟩
    rw [inV_eqv rv r h k]
    exact q _ F H (.refl g0.fh) (.bl _)
theorem ev_niF (ha : EvD ta Γ x) (hb : RdS tb Γ ds) (h : flatD x = true) (k : ds.all flatD = true) : EvD (tOp (rIn K true) ta tb) Γ (.bool (!(ds.any fun z => PyData.eqv z x))) :=
  ev_opDS ha hb fun F0 H0 F H v p us g0 rv hp r Q q => by
    refine ⟨p, us, rfl, hp.imp SqL.of SqT.of, rv.flat h, r.flatD k, ?_⟩
    rw [inV_eqv rv r h k]
    exact q _ F H (.refl g0.fh) (.bl _)
theorem flat_ints (ns : List Int) : (ns.map PyData.int).all flatD = true := by
  induction ns with
  | nil => rfl
  | cons n ns ih => exact ih
theorem any_ints (ns : List Int) (k : Int) : ((ns.map PyData.int).any fun z => PyData.eqv z (.int k)) = decide (k ∈ ns) := by
  induction ns with
  | nil => rfl
  | cons n ns ih =>
    rw [List.map_cons, List.any_cons, ih]
    show ((n == k) || decide (k ∈ ns)) = _
    by_cases h : k = n
    · subst h; simp
    · simp [h, Ne.symm h]
theorem flat_nats (ns : List Nat) : (ns.map fun n : Nat => PyData.int n).all flatD = true := by
  induction ns with
  | nil => rfl
  | cons n ns ih => exact ih
theorem any_nats (ns : List Nat) (k : Nat) : ((ns.map fun n : Nat => PyData.int n).any fun z => PyData.eqv z (.int k)) = decide (k ∈ ns) := by
  induction ns with
  | nil => rfl
  | cons n ns ih =>
    rw [List.map_cons, List.any_cons, ih]
    show (((n : Int) == (k : Int)) || decide (k ∈ ns)) = _
    by_cases h : k = n
    · subst h; simp
    · have h2 : ((n : Int) == (k : Int)) = false := beq_eq_false_iff_ne.mpr (by omega)
      rw [h2]; simp [h]
theorem ev_inI {ns : List Int} {k : Int} (ha : EvD ta Γ (.int k)) (hb : RdS tb Γ (ns.map .int)) : EvD (tOp (rIn K false) ta tb) Γ (.bool (decide (k ∈ ns))) := (ev_inF ha hb rfl (flat_ints ns)).is (by rw [any_ints])
theorem ev_niI {ns : List Int} {k : Int} (ha : EvD ta Γ (.int k)) (hb : RdS tb Γ (ns.map .int)) : EvD (tOp (rIn K true) ta tb) Γ (.bool (!decide (k ∈ ns))) := (ev_niF ha hb rfl (flat_ints ns)).is (by rw [any_ints])
theorem ev_inN {ns : List Nat} {k : Nat} (ha : EvD ta Γ (.int k)) (hb : RdS tb Γ (ns.map fun n : Nat => .int n)) : EvD (tOp (rIn K false) ta tb) Γ (.bool (decide (k ∈ ns))) := (ev_inF ha hb rfl (flat_nats ns)).is (by rw [any_nats])
theorem ev_niN {ns : List Nat} {k : Nat} (ha : EvD ta Γ (.int k)) (hb : RdS tb Γ (ns.map fun n : Nat => .int n)) : EvD (tOp (rIn K true) ta tb) Γ (.bool (!decide (k ∈ ns))) := (ev_niF ha hb rfl (flat_nats ns)).is (by rw [any_nats])
/-- slices -/
def EvO (to : TO) (Γ : List Sl) (o : Option Int) : Prop :=
  ∀ (C : Pc) (B F H : Hp) (σ : L2.St), Wd C F H → Gm C B F H σ Γ → ∀ Q : Option Int → Hp → Prop, (∀ F' H', Grow [] F H F' H' → Q o H') → to σ H Q
theorem eo_none : EvO tNoPart Γ none := fun C B F H σ w g Q q => q F H (.refl w.sub)
theorem eo_some {i : Int} (h : EvD te Γ (.int i)) : EvO (tPart te) Γ (some i) := fun C B F H σ w g Q q => h C B F H σ w g _ fun v F1 H1 g1 r => ⟨i, Rp.int_inv r, q F1 H1 g1⟩
def cutD {α : Type} (xs : List α) (lo hi : Option Int) : List α := (xs.drop (HT.sIx xs.length 0 lo)).take (HT.sIx xs.length xs.length hi - HT.sIx xs.length 0 lo)
def rSlB (K : PySem.W.Frag) : V → Option Int → Option Int → Hp → VK → Prop := fun x lo hi H Q => rSlL K x lo hi H Q ∨ rSlA K x lo hi H Q
theorem sSeq {X : Cx} : SlR X (rSlB X.K) := sl_list.or sl_tupA
theorem RpAll.cut {F : Hp} {vs : List V} (r : RpAll F vs ds) (lo hi : Option Int) : RpAll F (cutV vs lo hi) (cutD ds lo hi) := by
  unfold cutV cutD
  rw [r.length]
  exact (r.drop _).take _
theorem cut_whole {α : Type} {xs : List α} {lo hi : Option Int} (h : HT.sIx xs.length 0 lo = 0 ∧ HT.sIx xs.length xs.length hi = xs.length) : cutD xs lo hi = xs := by
  unfold cutD
  rw [h.1, h.2, List.drop_zero, Nat.sub_zero, List.take_length]
theorem ev_slT {tl th : TO} {lo hi : Option Int} (h : EvD te Γ (.tuple ds)) (hl : EvO tl Γ lo) (hh : EvO th Γ hi) : EvD (tSl (rSlB K) te tl th) Γ (.tuple (cutD ds lo hi)) := fun C B F H σ w g Q q =>
  h C B F H σ w g _ fun v F1 H1 g1 r1 => hl C B F1 H1 σ (w.grow g1) (g.grow g1.weak) _ fun F2 H2 g2 => hh C B F2 H2 σ ((w.grow g1).grow g2) ((g.grow g1.weak).grow g2.weak) _ fun F3 H3 g3 => by
    have r3 := (Rp.mono g2.ff r1).mono g3.ff
    obtain ⟨a, xs, rfl, f, ra⟩ := Rp.tup_inv r3
    have gg := (g1.trans g2).trans g3
    refine .inr ⟨a, xs, rfl, SqT.of (g3.fh _ _ f), fun hw => ?_, fun _ p hp => ?_⟩
    · rw [ra.length] at hw
      exact q _ F3 H3 gg (by rw [cut_whole hw]; exact r3)
    · exact q _ _ _ (gg.trans (.new g3.fh hp)) (.tup upd_same ((ra.cut lo hi).mono (Sub.new (g3.fh.none hp))))
theorem en_slL {tl th : TO} {lo hi : Option Int} (h : RdL te Γ ds) (hl : EvO tl Γ lo) (hh : EvO th Γ hi) : EvN (tSl (rSlB K) te tl th) Γ (cutD ds lo hi) := fun C B F H σ w g Q q =>
  h C B F H σ w g _ fun v F1 H1 g1 ⟨p, vs, e, l, r⟩ => hl C B F1 H1 σ (w.grow g1) (g.grow g1.weak) _ fun F2 H2 g2 => hh C B F2 H2 σ ((w.grow g1).grow g2) ((g.grow g1.weak).grow g2.weak) _ fun F3 H3 g3 => by
    subst e
    have gg := (g1.trans g2).trans g3
    refine .inl ⟨p, vs, rfl, SqL.of (g3.sub _ _ (g2.sub _ _ l)), fun q' hq => ?_⟩
    exact q _ F3 _ (gg.trans (.newM g3.fh hq)) ⟨q', _, rfl, gg.fresh hq, g3.fh.none hq, upd_same, ((r.mono g2.ff).mono g3.ff).cut lo hi⟩
end

/-! ### what a loop walks -/
def WkH (J : It) (F1 H1 : Hp) (ds : List PyData) : Prop := ∀ F2 H2, Grow [] F1 H1 F2 H2 →
  (∀ i d, ds[i]? = some d → J.go i H2 ∧ ∀ x H', J.yld i H2 x H' → ∃ F', Grow [] F2 H2 F' H' ∧ Rp F' x d) ∧ J.stop ds.length H2
def WkF (J : It) (F1 : Hp) (ds : List PyData) : Prop := ∀ F2 H2, Sub F1 F2 → Sub F2 H2 →
  (∀ i d, ds[i]? = some d → J.go i H2 ∧ ∀ x H', J.yld i H2 x H' → ∃ F', Grow [] F2 H2 F' H' ∧ Rp F' x d) ∧ J.stop ds.length H2
def IterH (wi : TI) (Γ : List Sl) (ds : List PyData) : Prop :=
  ∀ (C : Pc) (B F H : Hp) (σ : L2.St), Wd C F H → Gm C B F H σ Γ → ∀ R : It → Hp → Prop, (∀ J F' H', Grow [] F H F' H' → WkH J F' H' ds → R J H') → wi σ H R
def IterF (wi : TI) (Γ : List Sl) (ds : List PyData) : Prop :=
  ∀ (C : Pc) (B F H : Hp) (σ : L2.St), Wd C F H → Gm C B F H σ Γ → ∀ R : It → Hp → Prop, (∀ J F' H', Grow [] F H F' H' → WkF J F' ds → R J H') → wi σ H R
def iSeq (K : PySem.W.Frag) (tl : TE) : TI := fun σ H R => tl σ H fun x H1 => ∃ a, x = .ref a ∧ (((∃ xs, SqL K H1 a xs) ∧ R (Itl K a) H1) ∨ ((∃ xs, SqT K H1 a xs) ∧ R (Itt K a) H1))
theorem pi_seq {X : Cx} {tg l : Expr} {tl : TE} (hl : PE X l tl) : PI X tg l (iSeq X.K tl) := by
  refine ⟨fun pins s σ H R I h => ?_⟩
  refine thn (hl.run pins s σ H _ I h) fun v s1 ⟨x, H1, I1, r1, q1⟩ => ?_
  obtain ⟨a, e, q⟩ := q1
  subst e
  cases r1
  rcases q with ⟨⟨xs, hq⟩, q⟩ | ⟨⟨xs, hq⟩, q⟩
  · obtain ⟨its, rv, p, hz⟩ := I1.list hq
    refine wpAny_pyIter_list p.isList ?_
    refine ⟨s1.heap.objs.size, [s1.heap.objs.size], _, _, H1, rfl, I1.kept (t' := s1.toks) fun b o e => Heap.get?_push_of_some _ e, turn_list a _, ⟨_, Heap.get?_push_size _ rfl, rfl, rfl⟩, fun b hb => ?_, q⟩
    have e : b = s1.heap.objs.size := by simpa using hb
    subst e
    exact I1.fpOk (Nat.le_refl _) (I1.hok.fresh (Nat.le_refl _))
  · obtain ⟨its, rv, p, hz⟩ := I1.tuple hq
    refine wpAny_pyIter_tuple (show s1.heap.IsTuple a its.toArray from p) ?_
    refine ⟨s1.heap.objs.size, [s1.heap.objs.size], _, _, H1, rfl, I1.kept (t' := s1.toks) fun b o e => Heap.get?_push_of_some _ e, turn_tuple a _, ⟨_, Heap.get?_push_size _ rfl, rfl, rfl⟩, fun b hb => ?_, q⟩
    have e : b = s1.heap.objs.size := by simpa using hb
    subst e
    exact I1.fpOk (Nat.le_refl _) (I1.hok.fresh (Nat.le_refl _))
section
variable {te ta tb : TE} {ts : TA} {Γ : List Sl} {d x y : PyData} {ds es : List PyData} {K : PySem.W.Frag}
theorem IterF.h {wi : TI} (h : IterF wi Γ ds) : IterH wi Γ ds := fun C B F H σ w g R r => h C B F H σ w g R fun J F1 H1 g1 k => r J F1 H1 g1 fun F2 H2 g2 => k F2 H2 g2.ff g2.fh
/-- what stands at each turn, of a list, of a tuple -/
theorem wk_list {a : Addr} {vs : List V} {F H : Hp} (s : Sub F H) (h : H a = some (.lst vs)) (r : RpAll F vs ds) :
    (∀ i d, ds[i]? = some d → (Itl K a).go i H ∧ ∀ x H', (Itl K a).yld i H x H' → ∃ F', Grow [] F H F' H' ∧ Rp F' x d) ∧ (Itl K a).stop ds.length H :=
  ⟨fun i d e => by
    obtain ⟨v, h1, h2⟩ := r.get e
    exact ⟨⟨vs, v, SqL.of h, h1⟩, fun x H' ⟨e1, e2⟩ => by
      subst e1
      have e3 := e2 vs (SqL.of h)
      rw [h1] at e3; cases e3
      exact ⟨F, .refl s, h2⟩⟩, ⟨vs, SqL.of h, by rw [r.length]; exact Nat.le_refl _⟩⟩
theorem wk_tup {a : Addr} {vs : List V} {F H : Hp} (s : Sub F H) (h : H a = some (.tup vs)) (r : RpAll F vs ds) :
    (∀ i d, ds[i]? = some d → (Itt K a).go i H ∧ ∀ x H', (Itt K a).yld i H x H' → ∃ F', Grow [] F H F' H' ∧ Rp F' x d) ∧ (Itt K a).stop ds.length H :=
  ⟨fun i d e => by
    obtain ⟨v, h1, h2⟩ := r.get e
    exact ⟨⟨vs, v, SqT.of h, h1⟩, fun x H' ⟨e1, e2⟩ => by
      subst e1
      have e3 := e2 vs (SqT.of h)
      rw [h1] at e3; cases e3
      exact ⟨F, .refl s, h2⟩⟩, ⟨vs, SqT.of h, by rw [r.length]; exact Nat.le_refl _⟩⟩
theorem ih_seq (h : RdS te Γ ds) : IterH (iSeq K te) Γ ds := fun C B F H σ w g R r => h C B F H σ w g _ fun v F1 H1 g1 ⟨p, vs, e, l, ra⟩ => by
  subst e
  refine ⟨p, rfl, ?_⟩
  rcases l with l | l
  · exact .inl ⟨⟨vs, SqL.of l⟩, r _ F1 H1 g1 fun F2 H2 g2 => wk_list g2.fh (g2.sub _ _ l) (ra.mono g2.ff)⟩
  · exact .inr ⟨⟨vs, SqT.of l⟩, r _ F1 H1 g1 fun F2 H2 g2 => wk_tup g2.fh (g2.sub _ _ l) (ra.mono g2.ff)⟩
theorem if_lst (h : EvD te Γ (.list ds)) : IterF (iSeq K te) Γ ds := fun C B F H σ w g R r => h C B F H σ w g _ fun v F1 H1 g1 r1 => by
  obtain ⟨p, vs, rfl, l, ra⟩ := Rp.lst_inv r1
  exact ⟨p, rfl, .inl ⟨⟨vs, SqL.of (g1.fh _ _ l)⟩, r _ F1 H1 g1 fun F2 H2 s1 s2 => wk_list s2 (s2 _ _ (s1 _ _ l)) (ra.mono s1)⟩⟩
theorem if_tup (h : EvD te Γ (.tuple ds)) : IterF (iSeq K te) Γ ds := fun C B F H σ w g R r => h C B F H σ w g _ fun v F1 H1 g1 r1 => by
  obtain ⟨p, vs, rfl, l, ra⟩ := Rp.tup_inv r1
  exact ⟨p, rfl, .inr ⟨⟨vs, SqT.of (g1.fh _ _ l)⟩, r _ F1 H1 g1 fun F2 H2 s1 s2 => wk_tup s2 (s2 _ _ (s1 _ _ l)) (ra.mono s1)⟩⟩
/-- range(n) -/
theorem if_rng1 {n : Int} (h : EvA ts Γ [.int n]) (h1 : -(2 ^ 62) ≤ n) (h2 : n < 2 ^ 62) : IterF (iRng1 ts) Γ ((List.range n.toNat).map fun i : Nat => .int i) := fun C B F H σ w g R r => h C B F H σ w g _ fun vs F1 H1 g1 r1 => by
  cases r1 with
  | cons r1 r2 =>
    cases r2
    rw [r1.int_inv]
    refine ⟨n, rfl, h1, h2, r _ F1 H1 g1 fun F2 H2 s1 s2 => ⟨fun i d e => ?_, ?_⟩⟩
    · rw [List.getElem?_map] at e
      by_cases hi : i < n.toNat
      · rw [List.getElem?_range hi] at e
        cases e
        exact ⟨hi, fun x H' ⟨e1, e2⟩ => by subst e1 e2; rw [Int.zero_add]; exact ⟨F2, .refl s2, .int _⟩⟩
      · rw [List.getElem?_eq_none (by simpa using hi)] at e; cases e
    · show n.toNat ≤ _
      simp
theorem if_rngN {n : Nat} (h : EvD ta Γ (.int (n : Int))) (h2 : n ≤ 100000) : IterF (iRng1 (tCons ta tNil)) Γ ((List.range n).map fun i : Nat => .int i) := if_rng1 (ea_cons h ea_nil) (by omega) (by omega)
theorem if_rng2 {i j : Int} (h : EvA ts Γ [.int i, .int j]) (h1 : -(2 ^ 62) ≤ i) (h2 : i < 2 ^ 62) (h3 : -(2 ^ 62) ≤ j) (h4 : j < 2 ^ 62) : IterF (iRng2 ts) Γ ((List.range (j - i).toNat).map fun k : Nat => .int (i + k)) := fun C B F H σ w g R r => h C B F H σ w g _ fun vs F1 H1 g1 r1 => by
  cases r1 with
  | cons r1 r2 =>
    cases r2 with
    | cons r2 r3 =>
      cases r3
      rw [r1.int_inv, r2.int_inv]
      refine ⟨i, j, rfl, ⟨h1, h2, h3, h4⟩, r _ F1 H1 g1 fun F2 H2 s1 s2 => ⟨fun k d e => ?_, ?_⟩⟩
      · rw [List.getElem?_map] at e
        by_cases hi : k < (j - i).toNat
        · rw [List.getElem?_range hi] at e
          cases e
          exact ⟨hi, fun x H' ⟨e1, e2⟩ => by subst e1 e2; exact ⟨F2, .refl s2, .int _⟩⟩
        · rw [List.getElem?_eq_none (by simpa using hi)] at e; cases e
      · show (j - i).toNat ≤ _
        simp

/-! ### targets -/
def TgD (g : TG) (vs : List Nat) (Γ : List Sl) (d : PyData) (Γ' : List Sl) : Prop :=
  ∀ (C : Pc) (B F H : Hp) (σ : L2.St) (x : V), Sub F H → Gm C B F H σ Γ → Rp F x d → ∀ Q : L2.St → Hp → Prop, (∀ σ', Gm C B F H σ' Γ' → L2.wipe σ' vs = L2.wipe σ vs → Q σ' H) → g x σ H Q
theorem wipe_get (σ : L2.St) : ∀ (vs : List Nat) (j : Nat), (L2.wipe σ vs)[j]? = if j ∈ vs then (if j < σ.length then some none else none) else σ[j]?
  | [], j => by simp [L2.wipe]
  | v :: vs, j => by
    unfold L2.wipe
    rw [List.getElem?_set, L2.wipe_length, wipe_get σ vs j]
    by_cases h : v = j
    · subst h; simp
    · simp [h, Ne.symm h]
theorem wipe_set {σ : L2.St} {vs : List Nat} {i : Nat} {x : Option V} (h : i ∈ vs) : L2.wipe (σ.set i x) vs = L2.wipe σ vs := by
  apply List.ext_getElem?
  intro j
  rw [wipe_get, wipe_get, List.length_set]
  by_cases hj : j ∈ vs
  · rw [if_pos hj, if_pos hj]
  · rw [if_neg hj, if_neg hj, List.getElem?_set_ne (fun e : i = j => hj (e ▸ h))]
theorem wipe_wipe (σ : L2.St) (vs : List Nat) : L2.wipe (L2.wipe σ vs) vs = L2.wipe σ vs := by
  apply List.ext_getElem?
  intro j
  rw [wipe_get, L2.wipe_length, wipe_get]
  by_cases hj : j ∈ vs
  · rw [if_pos hj, if_pos hj]
  · rw [if_neg hj, if_neg hj]
theorem tg_name {i : Nat} {vs : List Nat} (h : i ∈ vs) : TgD (gName i) vs Γ d (Γ.set i (.dat d)) := fun C B F H σ x s g r Q q => q _ (g.dat r) (wipe_set h)
theorem tg_pair {i j : Nat} {vs : List Nat} (h1 : i ∈ vs) (h2 : j ∈ vs) : TgD (gTup K 2 (gCons (gName i) (gCons (gName j) gNil))) vs Γ (.tuple [x, y]) ((Γ.set i (.dat x)).set j (.dat y)) := fun C B F H σ z s g r Q q => by
  obtain ⟨a, xs, rfl, f, ra⟩ := Rp.tup_inv r
  cases ra with
  | cons r1 ra =>
    cases ra with
    | cons r2 ra =>
      cases ra
      refine ⟨a, _, rfl, SqT.of (s _ _ f), rfl, _, _, rfl, _, _, rfl, rfl, ?_⟩
      exact q _ ((g.dat r1).dat r2) (by rw [wipe_set h2, wipe_set h1])

/-! ### comprehensions -/
theorem en_lc {α : Type} {xs : List α} {enc f : α → PyData} {p : α → Bool} {wi : TI} {g : TG} {tt : TT} {vs : List Nat} {Γx : α → List Sl}
    (hi : IterH wi Γ (xs.map enc)) (hz : xs.length ≤ 100000) (hg : ∀ x ∈ xs, TgD g vs (wipeG Γ vs) (enc x) (Γx x))
    (ht : ∀ x ∈ xs, EvT tt (Γx x) (p x)) (he : ∀ x ∈ xs, p x = true → EvD te (Γx x) (f x)) : EvN (tLc wi g tt te vs) Γ ((xs.filter p).map f) := fun C B F H σ w gm Q q =>
  hi C B F H σ w gm _ fun J F1 H1 g1 wk D hD => by
    have w1 := w.grow g1
    have e1 := gm.grow g1.weak
    refine ⟨fun i m H' => i + m = xs.length ∧ ∃ F' acc, Grow [] F1 H1 F' H' ∧ F' D = none ∧ H' D = some (.lst acc) ∧ RpAll F' acc (((xs.take i).filter p).map f),
      ⟨xs.length, by omega, F1, [], .newM g1.fh hD, g1.fh.none hD, upd_same, .nil⟩, fun i m H' ⟨hm, F', acc, g2, hF, hH, ra⟩ => ?_⟩
    by_cases hlt : i < xs.length
    · refine .inr ?_
      obtain ⟨x, hx⟩ : ∃ x, xs[i]? = some x := ⟨_, List.getElem?_eq_getElem hlt⟩
      have hmem : x ∈ xs := List.mem_of_getElem? hx
      have htk : xs.take (i + 1) = xs.take i ++ [x] := by rw [List.take_add_one, hx]; rfl
      obtain ⟨go, yl⟩ := (wk F' H' g2).1 i (enc x) (by rw [List.getElem?_map, hx]; rfl)
      refine ⟨go, fun H'' => ∃ F'' acc, Grow [] F1 H1 F'' H'' ∧ F'' D = none ∧ H'' D = some (.lst acc) ∧ RpAll F'' acc (((xs.take (i + 1)).filter p).map f), fun H'' h'' => ⟨m - 1, by omega, by omega, h''⟩, fun v H'' y => ?_⟩
      obtain ⟨F'', g3, rv⟩ := yl v H'' y
      have nD : D ∉ ([] : List Addr) := by simp
      have g23 := g2.trans g3
      have dF : F'' D = none := g3.nw D (by rw [hH]; exact fun z => nomatch z) hF
      refine hg x hmem C B F'' H'' (L2.wipe σ vs) v g3.fh ((e1.grow g23.weak).wipe vs) rv _ fun σ' e2 hw => ⟨hw.trans (wipe_wipe σ vs), ?_⟩
      refine ht x hmem C B F'' H'' σ' (w1.grow g23) e2 _ fun F3 H3 g4 => ?_
      have d3 : H3 D = some (.lst acc) := g4.sub _ _ (g3.sub _ _ hH)
      have f3 : F3 D = none := g4.nw D (by rw [g3.sub _ _ hH]; exact fun z => nomatch z) dF
      cases hp : p x with
      | true =>
        rw [if_pos rfl]
        refine he x hmem hp C B F3 H3 σ' ((w1.grow g23).grow g4) (e2.grow g4.weak) _ fun u F4 H4 g5 ru => ?_
        have gg := (g23.trans g4).trans g5
        refine ⟨acc, g5.sub _ _ d3, ?_, F4, acc ++ [u], ?_, g5.nw D (by rw [d3]; exact fun z => nomatch z) f3, upd_same, ?_⟩
        · rw [ra.length, List.length_map]
          exact Nat.lt_of_le_of_lt (Nat.le_trans (List.length_filter_le _ _) (by rw [List.length_take]; exact Nat.le_trans (Nat.min_le_right _ _) hz)) (by decide)
        · exact ⟨gg.ff, fun a o e => by
            have z : a ≠ D := fun z => by subst z; rw [g5.nw a (by rw [d3]; exact fun z => nomatch z) f3] at e; cases e
            rw [upd_ne z]; exact gg.fh a o e, fun a o n e => by
            have z : a ≠ D := fun z => by subst z; rw [hD] at e; cases e
            rw [upd_ne z]; exact gg.hh a o n e, fun a e => upd_th (gg.th a e), gg.nw⟩
        · rw [htk, List.filter_append, List.map_append, show ([x].filter p) = [x] by simp [hp]]
          exact (((ra.mono g3.ff).mono g4.ff).mono g5.ff).append (.one ru)
      | false =>
        rw [if_neg Bool.false_ne_true]
        refine ⟨F3, acc, g23.trans g4, f3, d3, ?_⟩
        rw [htk, List.filter_append, show ([x].filter p) = [] by simp [hp], List.append_nil]
        exact (ra.mono g3.ff).mono g4.ff
    · refine .inl ?_
      have ei : i = xs.length := by omega
      subst ei
      refine ⟨by have z := (wk F' H' g2).2; rw [List.length_map] at z; exact z, ?_⟩
      rw [List.take_length] at ra
      exact q _ F' H' (g1.trans g2) ⟨D, acc, rfl, g1.fresh hD, hF, hH, ra⟩
/-- without a test -/
theorem en_lcM {α : Type} {xs : List α} {enc f : α → PyData} {wi : TI} {g : TG} {vs : List Nat} {Γx : α → List Sl}
    (hi : IterH wi Γ (xs.map enc)) (hz : xs.length ≤ 100000) (hg : ∀ x ∈ xs, TgD g vs (wipeG Γ vs) (enc x) (Γx x))
    (he : ∀ x ∈ xs, EvD te (Γx x) (f x)) : EvN (tLc wi g tYes te vs) Γ (xs.map f) :=
  (en_lc (p := fun _ => true) hi hz hg (fun _ _ => et_yes) fun x hx _ => he x hx).is (by rw [List.filter_eq_self.mpr fun _ _ => rfl])
end
end Eh

namespace Eh
open PySem PySem.Spec PyProof.Rows L2

/-! ### statements: from the slots Γ -/
def At (C : Pc) (B F0 : Hp) (Γ : List Sl) (P : L2.St → Hp → Prop) : Prop := ∀ F H σ, Wd C F H → Grow C.S F0 B F H → Gm C B F H σ Γ → P σ H
/-- what the end wants of a value handed back; of a new list; of an error; of the body's end -/
def RetOk (C : Pc) (B F0 : Hp) (D : Ends) (R : PyData → Prop) : Prop := ∀ F H v d, Wd C F H → Grow C.S F0 B F H → R d → Rp F v d → D.rt v H
def RetN (C : Pc) (B F0 : Hp) (D : Ends) (R : List PyData → Prop) : Prop := ∀ F H p us es, Wd C F H → Grow C.S F0 B F H → B p = none → F p = none → p ∉ C.S → H p = some (.lst us) → RpAll F us es → R es → D.rt (.ref p) H
def RaiseOk (C : Pc) (B F0 : Hp) (E : XK) (R : Addr → Option (List (Str × V)) → Prop) : Prop := ∀ F H cv dd c f, Wd C F H → Grow C.S F0 B F H → R c f → XcOk c f cv dd H → E cv dd H
section
variable {C : Pc} {B F0 : Hp} {Γ Γ' : List Sl} {D : Ends} {te ta tb : TE} {t u : TS} {tt : TT} {d x y : PyData} {ds es : List PyData} {i j : Nat} {K : PySem.W.Frag} {R : PyData → Prop} {RN : List PyData → Prop} {RX : Addr → Option (List (Str × V)) → Prop} {E : XK} {P : L2.St → Hp → Prop}
theorem at_asg (h : EvD te Γ d) (k : At C B F0 (Γ.set i (.dat d)) D.nx) : At C B F0 Γ (tAsg te (gName i) D) := fun F H σ w g e =>
  h C B F H σ w e _ fun v F1 H1 g1 r => k F1 H1 _ (w.grow g1) (g.trans g1.weak) ((e.grow g1.weak).dat r)
theorem Grow.th_none {S : List Addr} {F H F' H' : Hp} {p : Addr} (a : Grow S F H F' H') (h : H' p = none) : H p = none := a.fresh h
theorem at_asgN (h : EvN te Γ ds) (k : At C B F0 (Γ.set i (.own ds)) D.nx) : At C B F0 Γ (tAsg te (gName i) D) := fun F H σ w g e =>
  h C B F H σ w e _ fun v F1 H1 g1 ⟨p, vs, ev, hn, hf, hl, r⟩ => by
    subst ev
    have hs : p ∉ C.S := fun z => w.sH p z hn
    refine k F1 H1 _ (w.grow g1) (g.trans g1.weak) ((e.grow g1.weak).set ⟨p, vs, rfl, hl, hf, g.fresh hn, hs, r⟩ fun ds' _ j es q eq h1 h2 => ?_)
    cases eq
    obtain ⟨q, us, e1, h3, _⟩ := e.ok j _ h1
    rw [h2] at e1; cases e1
    rw [hn] at h3; cases h3
theorem at_seq (h : At C B F0 Γ (t { D with nx := u D })) : At C B F0 Γ (tSeq t u D) := h
theorem at_next (h : At C B F0 Γ D.nx) : At C B F0 Γ (tNext D) := h
theorem at_brk (h : At C B F0 Γ D.bk) : At C B F0 Γ (tBreak D) := h
theorem at_cont (h : At C B F0 Γ D.ct) : At C B F0 Γ (tCont D) := h
theorem at_ret (hr : RetOk C B F0 D R) (h : EvD te Γ d) (hd : R d) : At C B F0 Γ (tRet te D) := fun F H σ w g e =>
  h C B F H σ w e _ fun v F1 H1 g1 r => hr F1 H1 v d (w.grow g1) (g.trans g1.weak) hd r
theorem at_retN (hr : RetN C B F0 D RN) (h : EvN te Γ ds) (hd : RN ds) : At C B F0 Γ (tRet te D) := fun F H σ w g e =>
  h C B F H σ w e _ fun v F1 H1 g1 ⟨p, vs, ev, hn, hf, hl, r⟩ => by
    subst ev
    exact hr F1 H1 p vs ds (w.grow g1) (g.trans g1.weak) (g.fresh hn) hf (fun z => w.sH p z hn) hl r hd
/-- an own list is handed back -/
theorem at_retO (hr : RetN C B F0 D RN) (h : Γ[i]? = some (.own ds)) (hd : RN ds) : At C B F0 Γ (tRet (tVar i) D) := fun F H σ w g e => by
  obtain ⟨p, vs, e1, hl, hf, hb, hs, r⟩ := e.ok i _ h
  exact ⟨_, e1, hr F H p vs ds w g hb hf hs hl r hd⟩
/-- an own list stands for good from here -/
theorem at_frz (i : Nat) (h : Γ[i]? = some (.own ds)) (k : At C B F0 (Γ.set i (.dat (.list ds))) P) : At C B F0 Γ P := fun F H σ w g e => by
  obtain ⟨p, vs, e1, hl, hf, hb, hs, r⟩ := e.ok i _ h
  have il : i < Γ.length := (List.getElem?_eq_some_iff.mp h).1
  have sF : Sub F (upd F p (.lst vs)) := Sub.new hf
  refine k (upd F p (.lst vs)) H σ (w.freeze hs hl hf) (g.freeze hb hl hf) ⟨by rw [List.length_set, e.len], fun j t ej => ?_, fun j m ds' es' q e2 e3 e4 e5 => ?_⟩
  · rw [List.getElem?_set] at ej
    by_cases hj : i = j
    · subst hj
      rw [if_pos rfl, if_pos il] at ej
      cases ej
      exact ⟨_, e1, .lst upd_same (r.mono sF)⟩
    · rw [if_neg hj] at ej
      have k1 := e.ok j t ej
      cases t with
      | no => trivial
      | dat d => obtain ⟨v, a1, a2⟩ := k1; exact ⟨v, a1, a2.mono sF⟩
      | own fs =>
        obtain ⟨q, us, a1, a2, a3, a4, a5, a6⟩ := k1
        have nq : q ≠ p := fun z => hj (e.inj i j ds fs p h ej e1 (z ▸ a1))
        exact ⟨q, us, a1, a2, by rw [upd_ne nq]; exact a3, a4, a5, a6.mono sF⟩
      | pool => exact k1
      | fz K a xs => exact k1
      | ref a => exact k1
  · have ne : ∀ (m : Nat) (xs : List PyData), (Γ.set i (.dat (.list ds)))[m]? = some (Sl.own xs) → Γ[m]? = some (Sl.own xs) := fun m xs z => by
      rw [List.getElem?_set] at z
      by_cases hm : i = m
      · subst hm; rw [if_pos rfl, if_pos il] at z; cases z
      · rw [if_neg hm] at z; exact z
    exact e.inj j m ds' es' q (ne j ds' e2) (ne m es' e3) e4 e5
theorem at_if {b : Bool} (h : EvT tt Γ b) (h1 : b = true → At C B F0 Γ (t D)) (h2 : b = false → At C B F0 Γ (u D)) : At C B F0 Γ (tIfS tt t u D) := fun F H σ w g e =>
  h C B F H σ w e _ fun F1 H1 g1 => by
    cases b with
    | true =>
      show t D σ H1
      exact h1 rfl F1 H1 σ (w.grow g1) (g.trans g1.weak) (e.grow g1.weak)
    | false =>
      show u D σ H1
      exact h2 rfl F1 H1 σ (w.grow g1) (g.trans g1.weak) (e.grow g1.weak)
theorem at_ifT (h : EvT tt Γ true) (h1 : At C B F0 Γ (t D)) : At C B F0 Γ (tIfS tt t u D) := at_if h (fun _ => h1) fun z => nomatch z
theorem at_ifF (h : EvT tt Γ false) (h1 : At C B F0 Γ (u D)) : At C B F0 Γ (tIfS tt t u D) := at_if h (fun z => nomatch z) fun _ => h1
theorem at_drop (h : EvD te Γ d) (k : At C B F0 Γ D.nx) : At C B F0 Γ (tDrop te D) := fun F H σ w g e =>
  h C B F H σ w e _ fun v F1 H1 g1 r => k F1 H1 _ (w.grow g1) (g.trans g1.weak) (e.grow g1.weak)
/-- an error -/
theorem at_asgX {c : Addr} {f : Option (List (Str × V))} {gg : TG} (hr : RaiseOk C B F0 E RX) (h : EvX te Γ E c f) (hx : RX c f) : At C B F0 Γ (tAsg te gg D) := fun F H σ w g e =>
  h C B F H σ w e _ fun cv dd F1 H1 g1 x => hr F1 H1 cv dd c f (w.grow g1) (g.trans g1.weak) hx x
theorem at_dropX {c : Addr} {f : Option (List (Str × V))} (hr : RaiseOk C B F0 E RX) (h : EvX te Γ E c f) (hx : RX c f) : At C B F0 Γ (tDrop te D) := fun F H σ w g e =>
  h C B F H σ w e _ fun cv dd F1 H1 g1 x => hr F1 H1 cv dd c f (w.grow g1) (g.trans g1.weak) hx x
theorem at_retX {c : Addr} {f : Option (List (Str × V))} (hr : RaiseOk C B F0 E RX) (h : EvX te Γ E c f) (hx : RX c f) : At C B F0 Γ (tRet te D) := fun F H σ w g e =>
  h C B F H σ w e _ fun cv dd F1 H1 g1 x => hr F1 H1 cv dd c f (w.grow g1) (g.trans g1.weak) hx x
/-- raise C('..') -/
def tRaiseC (E : XK) (c : Addr) : TS := fun _ σ H => (fun cls d (_ : L2.St) H' => E cls d H') (.ref c) none σ H
theorem at_raise {c : Addr} (hr : RaiseOk C B F0 E RX) (hx : RX c none) : At C B F0 Γ (tRaiseC E c D) := fun F H σ w g e => hr F H (.ref c) none c none w g hx ⟨rfl, rfl⟩
/-- name += e, ints -/
theorem at_aug {a b : Int} {f : Int → Int → Int} (hx : Γ[i]? = some (.dat (.int a))) (h : EvD te Γ (.int b)) (k : At C B F0 (Γ.set i (.dat (.int (f a b)))) D.nx) : At C B F0 Γ (tAug i te (ipI f) D) := fun F H σ w g e => by
  obtain ⟨v, e1, r⟩ := e.get hx
  rw [r.int_inv] at e1
  exact ⟨_, e1, h C B F H σ w e _ fun v F1 H1 g1 r1 => ⟨a, b, rfl, r1.int_inv, k F1 H1 _ (w.grow g1) (g.trans g1.weak) ((e.grow g1.weak).dat (.int _))⟩⟩
/-- own.append(e) -/
theorem at_append (hx : Γ[i]? = some (.own ds)) (hz : ds.length < 100000) (h : EvD te Γ d) (k : At C B F0 (Γ.set i (.own (ds ++ [d]))) D.nx) :
    At C B F0 Γ (tDrop (tBM K "list" rAppend (tVar i) (tCons te tNil)) D) := fun F H σ w g e => by
  obtain ⟨p, vs, e1, hl, hf, hb, hs, r⟩ := e.ok i _ hx
  refine ⟨_, e1, .inl ⟨rfl, vs, SqL.of hl⟩, h C B F H σ w e _ fun v F1 H1 g1 rv => ?_⟩
  have hl1 := g1.sub _ _ hl
  have hf1 := g1.nw p (by rw [hl]; exact fun z => nomatch z) hf
  have g2 := g.trans g1.weak
  have e2 : Gm C B F1 H1 σ Γ := e.grow g1.weak
  exact ⟨p, vs, v, rfl, rfl, hl1, by rw [r.length]; exact size_lt hz, k F1 _ σ ((w.grow g1).mut hs hf1) (g2.mut hb hf1) (e2.mut hx e1 ((r.mono g1.ff).append (.one rv)))⟩
/-- own[i] = e -/
theorem at_setL {n : Int} {k : Nat} (hx : Γ[i]? = some (.own ds)) (h : EvD te Γ d) (hi : EvD tb Γ (.int n)) (hk : ixN ds.length n = some k) (kk : At C B F0 (Γ.set i (.own (ds.set k d))) D.nx) :
    At C B F0 Γ (tAsg te (gSub (tVar i) tb rSetL) D) := fun F H σ w g e => by
  obtain ⟨p, vs, e1, hl, hf, hb, hs, r⟩ := e.ok i _ hx
  refine h C B F H σ w e _ fun v F1 H1 g1 rv => ⟨_, e1, hi C B F1 H1 σ (w.grow g1) (e.grow g1.weak) _ fun u F2 H2 g2 ru => ?_⟩
  rw [Rp.int_inv ru]
  have g12 := g1.trans g2
  have hl1 := g12.sub _ _ hl
  have hf1 := g12.nw p (by rw [hl]; exact fun z => nomatch z) hf
  have gg := g.trans (S := C.S) g12.weak
  have e2 : Gm C B F2 H2 σ Γ := e.grow g12.weak
  exact ⟨p, vs, n, k, rfl, rfl, hl1, by rw [r.length]; exact hk, kk F2 _ σ ((w.grow g12).mut hs hf1) (gg.mut hb hf1) (e2.mut hx e1 ((r.mono g12.ff).set k (rv.mono g2.ff)))⟩
/-- own.extend(e) -/
theorem at_extend (hx : Γ[i]? = some (.own ds)) (h : EvN te Γ es) (hz : ds.length + es.length ≤ 100000) (k : At C B F0 (Γ.set i (.own (ds ++ es))) D.nx) :
    At C B F0 Γ (tDrop (tBM K "list" rExtend (tVar i) (tCons te tNil)) D) := fun F H σ w g e => by
  obtain ⟨p, vs, e1, hl, hf, hb, hs, r⟩ := e.ok i _ hx
  refine ⟨_, e1, .inl ⟨rfl, vs, SqL.of hl⟩, h C B F H σ w e _ fun v F1 H1 g1 ⟨b, us, eb, _, _, hlb, rb⟩ => ?_⟩
  subst eb
  have hl1 := g1.sub _ _ hl
  have hf1 := g1.nw p (by rw [hl]; exact fun z => nomatch z) hf
  have g2 := g.trans (S := C.S) g1.weak
  have e2 : Gm C B F1 H1 σ Γ := e.grow g1.weak
  exact ⟨p, b, vs, us, rfl, rfl, hl1, hlb, by rw [r.length, rb.length]; exact size_ok hz, k F1 _ σ ((w.grow g1).mut hs hf1) (g2.mut hb hf1) (e2.mut hx e1 ((r.mono g1.ff).append rb))⟩
theorem At.chain {F1 H1 : Hp} (a : Grow C.S F0 B F1 H1) (h : At C B F0 Γ P) : At C B F1 Γ P := fun F H σ w g e => h F H σ w (a.chain g) e
theorem RetOk.chain {F1 H1 : Hp} (a : Grow C.S F0 B F1 H1) (h : RetOk C B F0 D R) : RetOk C B F1 D R := fun F H v d w g => h F H v d w (a.chain g)
theorem RetN.chain {F1 H1 : Hp} (a : Grow C.S F0 B F1 H1) (h : RetN C B F0 D RN) : RetN C B F1 D RN := fun F H p us es w g => h F H p us es w (a.chain g)
theorem RaiseOk.chain {F1 H1 : Hp} (a : Grow C.S F0 B F1 H1) (h : RaiseOk C B F0 E RX) : RaiseOk C B F1 E RX := fun F H cv dd c f w g => h F H cv dd c f w (a.chain g)
/-- for target in what stands for good: Γi i the slots ahead of turn i -/
theorem at_for {α : Type} {xs : List α} {enc : α → PyData} {wi : TI} {g : TG} {vs : List Nat} (Γi : Nat → List Sl) (Γx : Nat → α → List Sl) (hi : IterF wi (Γi 0) (xs.map enc))
    (hg : ∀ i x, xs[i]? = some x → TgD g vs (Γi i) (enc x) (Γx i x))
    (hb : ∀ i x, xs[i]? = some x → ∀ F1 H1, Grow C.S F0 B F1 H1 → ∀ D' : Ends, D'.rt = D.rt → At C B F1 (Γi (i + 1)) D'.nx → At C B F1 (Γi (i + 1)) D'.ct → D'.bk = D.nx → At C B F1 (Γx i x) (t D'))
    (hd : At C B F0 (Γi xs.length) D.nx) : At C B F0 (Γi 0) (tFor wi g t D) := fun F H σ w gr e =>
  hi C B F H σ w e _ fun J F1 H1 g1 wk => by
    have gb : Grow C.S F0 B F1 H1 := gr.trans g1.weak
    refine ⟨fun i m σ' H' => i + m = xs.length ∧ ∃ F', Wd C F' H' ∧ Grow C.S F1 B F' H' ∧ Gm C B F' H' σ' (Γi i), ⟨xs.length, by omega, F1, w.grow g1, gb.start, e.grow g1.weak⟩, fun i m σ' H' ⟨hm, F', w2, g2, e2⟩ => ?_⟩
    by_cases hlt : i < xs.length
    · refine .inr ?_
      obtain ⟨x, hx⟩ : ∃ x, xs[i]? = some x := ⟨_, List.getElem?_eq_getElem hlt⟩
      obtain ⟨go, yl⟩ := (wk F' H' g2.ff g2.fh).1 i (enc x) (by rw [List.getElem?_map, hx]; rfl)
      refine ⟨go, fun σ'' H'' => ∃ F'', Wd C F'' H'' ∧ Grow C.S F1 B F'' H'' ∧ Gm C B F'' H'' σ'' (Γi (i + 1)), fun σ'' H'' h'' => ⟨m - 1, by omega, by omega, h''⟩, fun v H'' y => ?_⟩
      obtain ⟨F'', g3, rv⟩ := yl v H'' y
      refine hg i x hx C B F'' H'' σ' v g3.fh (e2.grow g3.weak) rv _ fun σ3 e3 _ => ?_
      exact hb i x hx F1 H1 gb { D with nx := fun σ'' H'' => ∃ F'', Wd C F'' H'' ∧ Grow C.S F1 B F'' H'' ∧ Gm C B F'' H'' σ'' (Γi (i + 1)), ct := fun σ'' H'' => ∃ F'', Wd C F'' H'' ∧ Grow C.S F1 B F'' H'' ∧ Gm C B F'' H'' σ'' (Γi (i + 1)), bk := D.nx } rfl
        (fun F H σ w g e => ⟨F, w, g, e⟩) (fun F H σ w g e => ⟨F, w, g, e⟩) rfl F'' H'' σ3 (w2.grow g3) (g2.trans g3.weak) e3
    · refine .inl ?_
      have ei : i = xs.length := by omega
      subst ei
      exact ⟨by have z := (wk F' H' g2.ff g2.fh).2; rw [List.length_map] at z; exact z, hd F' H' σ' w2 (gb.chain g2) e2⟩
/-- while: by states s of a type of one's own, a measure -/
theorem at_while {σT : Type} {tc : TT} (Γs : σT → List Sl) (b : σT → Bool) (next : σT → σT) (μ : σT → Nat) (I : σT → Prop) (s0 : σT) (h0 : I s0)
    (hc : ∀ s, I s → EvT tc (Γs s) (b s))
    (hb : ∀ s, I s → b s = true → ∀ F1 H1, Grow C.S F0 B F1 H1 → ∀ D' : Ends, D'.rt = D.rt → (∀ s', I s' → μ s' < μ s → At C B F1 (Γs s') D'.nx) → (∀ s', I s' → μ s' < μ s → At C B F1 (Γs s') D'.ct) → D'.bk = D.nx → At C B F1 (Γs s) (t D'))
    (hd : ∀ s, I s → b s = false → At C B F0 (Γs s) D.nx) : At C B F0 (Γs s0) (tWhile tc t D) := fun F H σ w gr e => by
  refine ⟨fun m σ' H' => ∃ s, m = μ s ∧ I s ∧ ∃ F', Wd C F' H' ∧ Grow C.S F0 B F' H' ∧ Gm C B F' H' σ' (Γs s), ⟨_, s0, rfl, h0, F, w, gr, e⟩, fun m σ' H' ⟨s, hm, hI, F', w2, g2, e2⟩ => ?_⟩
  subst hm
  refine hc s hI C B F' H' σ' w2 e2 _ fun F3 H3 g3 => ?_
  cases hbs : b s with
  | true =>
    rw [if_pos rfl]
    refine ⟨fun σ'' H'' => ∃ s', μ s' < μ s ∧ I s' ∧ ∃ F'', Wd C F'' H'' ∧ Grow C.S F0 B F'' H'' ∧ Gm C B F'' H'' σ'' (Γs s'), fun σ'' H'' ⟨s', hl, hI', k⟩ => ⟨μ s', hl, s', rfl, hI', k⟩, ?_⟩
    have gb := g2.trans (S := C.S) g3.weak
    exact hb s hI hbs F0 H3 ⟨Sub.refl _, fun a o h => gb.fh a o (gb.ff a o h), gb.hh, gb.th, fun _ _ n => n⟩ { D with nx := _, ct := _, bk := D.nx } rfl (fun s' hI' hl F H σ w g e => ⟨s', hl, hI', F, w, g, e⟩) (fun s' hI' hl F H σ w g e => ⟨s', hl, hI', F, w, g, e⟩) rfl F3 H3 σ' (w2.grow g3) gb (e2.grow g3.weak)
  | false =>
    rw [if_neg Bool.false_ne_true]
    exact hd s hI hbs F3 H3 σ' (w2.grow g3) (g2.trans g3.weak) (e2.grow g3.weak)
end

/-! ### a def's body from its promise -/
def startG (n : Nat) (ds : List PyData) : List Sl := ds.map .dat ++ List.replicate (n - ds.length) .no
theorem start_gm {F H : Hp} {vs : List V} {ds : List PyData} {N : List Str} (r : RpAll F vs ds) : Gm pc0 H F H (L2.start N vs) (startG N.length ds) := by
  have hl := r.length
  refine ⟨by unfold L2.start startG; simp [hl], fun i s e => ?_, fun i j ds' es p e1 _ _ _ => ?_⟩
  · unfold startG at e
    by_cases hi : i < ds.length
    · rw [List.getElem?_append_left (by simpa using hi), List.getElem?_map, List.getElem?_eq_getElem hi] at e
      cases e
      obtain ⟨v, h1, h2⟩ := r.get (List.getElem?_eq_getElem hi)
      refine ⟨v, ?_, h2⟩
      unfold L2.start
      rw [List.getElem?_append_left (by simpa [hl] using hi), List.getElem?_map, h1]
      rfl
    · rw [List.getElem?_append_right (by simpa using hi), List.getElem?_replicate] at e
      split at e
      · cases e; trivial
      · cases e
  · exfalso
    unfold startG at e1
    by_cases hi : i < ds.length
    · rw [List.getElem?_append_left (by simpa using hi), List.getElem?_map, List.getElem?_eq_getElem hi] at e1
      cases e1
    · rw [List.getElem?_append_right (by simpa using hi), List.getElem?_replicate] at e1
      split at e1 <;> cases e1
theorem spR_body {R : List PyData → Out → Prop} {N : List Str} {t : XK → TS} {vs : List V} {H : Hp} {Q : VK} {E : XK} (h : spR R vs H Q E)
    (hb : ∀ ds o, R ds o → ∀ (B F0 : Hp) (D : Ends) (E : XK), RetOk pc0 B F0 D (fun d => o = .ok d) → RaiseOk pc0 B F0 E (fun c f => o = .err c f) → (o = .ok .none → ∀ Γ, At pc0 B F0 Γ D.nx) → At pc0 B F0 (startG N.length ds) (t E D)) :
    t E { nx := fun _ H' => Q .non H', rt := Q } (L2.start N vs) H := by
  obtain ⟨F, ds, o, s, r, hR, hok, herr⟩ := h
  exact hb ds o hR H F { nx := fun _ H' => Q .non H', rt := Q } E (fun F1 H1 v d _ g e rd => hok d e v F1 H1 g rd) (fun F1 H1 cv dd c f _ g e x => herr c f e cv dd F1 H1 g x)
    (fun e Γ F1 H1 σ _ g _ => hok .none e .non F1 H1 g .non) F H _ (wd0 s) (.refl s) (start_gm r)
theorem spN_body {R : List PyData → List PyData → Prop} {N : List Str} {t : TS} {vs : List V} {H : Hp} {Q : VK} {E : XK} (h : spN R vs H Q E)
    (hb : ∀ ds es, R ds es → ∀ (B F0 : Hp) (D : Ends), RetN pc0 B F0 D (fun x => x = es) → At pc0 B F0 (startG N.length ds) (t D)) :
    t { nx := fun _ H' => Q .non H', rt := Q } (L2.start N vs) H := by
  obtain ⟨F, ds, es, s, r, hR, hq⟩ := h
  exact hb ds es hR H F { nx := fun _ H' => Q .non H', rt := Q } (fun F1 H1 p us es' _ g hb hf _ hl ra e => by subst e; exact hq p us F1 H1 g hb hf hl ra) F H _ (wd0 s) (.refl s) (start_gm r)
end Eh

namespace Eh
open PySem PySem.Spec PyProof.Rows L2
/-! ### enumerate(x), x a list or a tuple -/
theorem meets_enum1B {v : Value} {o : Obj} {H : Heap → Prop} (B : Begins v o H) :
    Meets (Builtin.«enumerate.__new__» ⟨[.type "enumerate", v], []⟩) (fun _ R s => H s.heap ∧
      R (.ok (.ret (.ref (s.heap.push o).objs.size))) { s with heap := (s.heap.push o).push { cls := .type "enumerate", data := .fields #[.none, .bool false, .ref s.heap.objs.size, rawInt 0, .none, .none] } }) :=
  .of_wp fun prog w A R s h => by
    obtain ⟨hp, g, d, tk, os⟩ := s; obtain ⟨h1, h⟩ := h
    have hsub := sub_enumerate
    have q1 : ∀ {A' : Around} {E : Value → Shared → Prop} {Q : Value → Shared → Prop}, Q (.ref hp.objs.size) ⟨hp.push o, g, d, tk, os⟩ → wpAny (model prog w) A' (pyIter v) Q E ⟨hp, g, d, tk, os⟩ :=
      fun q => B.iter prog w _ _ ⟨hp, g, d, tk, os⟩ _ h1 q
    wp_walk using q1
    refine wpAny_stack_any fun st => wpAny_pure ?_
    split
    · rename_i c _ _ _ _ _
      cases (c == Value.type "enumerate")
      · wp_walk using q1
        exact ⟨_, rfl, h⟩
      · wp_walk using q1
        exact ⟨_, rfl, h⟩
    · wp_walk using q1
      exact ⟨_, rfl, h⟩
theorem enum1_begins {prog : Program} {w : World} {A : Around} {E : Value → Shared → Prop} {s : Shared} {v : Value} {o : Obj} {H : Heap → Prop} {Q : Value → Shared → Prop} (B : Begins v o H) (h1 : H s.heap)
    (h : ∀ h', IsEnum h' (s.heap.objs.size + 1) s.heap.objs.size 0 .none → h'.get? s.heap.objs.size = some o → h'.objs.size = s.heap.objs.size + 2 →
      (∀ b o, s.heap.get? b = some o → h'.get? b = some o) → Q (.ref (s.heap.objs.size + 1)) { s with heap := h' }) :
    wpAny (model prog w) A (call (.type "enumerate") [v]) Q E s := by
  refine callType_new F.called_enumerate (by decide) (F.typeCall_enumerate_1 _) (F.newCall_enumerate_1 _) (fun obj => F.args_object_init_2 obj _) F.entry_enumerate_new
    (meets_enum1B B) ⟨h1, ?_⟩
  have hz : (s.heap.push o).objs.size = s.heap.objs.size + 1 := Heap.size_push ..
  show _ ∧ _
  rw [hz]
  have he : IsEnum ((s.heap.push o).push { cls := .type "enumerate", data := .fields #[.none, .bool false, .ref s.heap.objs.size, rawInt 0, .none, .none] }) (s.heap.objs.size + 1) s.heap.objs.size 0 .none := by
    have := Heap.get?_push_size (s.heap.push o) (o := { cls := .type "enumerate", data := .fields #[.none, .bool false, .ref s.heap.objs.size, rawInt 0, .none, .none] }) rfl
    rw [hz] at this; exact this
  refine ⟨⟨_, he, rfl⟩, h _ he (Heap.get?_push_of_some _ (Heap.get?_push_size _ B.free)) (by rw [Heap.size_push, hz]) fun b o x => Heap.get?_push_of_some _ (Heap.get?_push_of_some _ x)⟩
/-- the tuple at a as it stands, each item in a new pair -/
def IteT (K : PySem.W.Frag) (a : Addr) : It :=
  ⟨fun i H => ∃ (xs : List V) (x : V), SqT K H a xs ∧ xs[i]? = some x, fun i H v H' => ∃ T x, v = .ref T ∧ H T = none ∧ H' = upd H T (.tup [.int (i : Nat), x]) ∧ ∀ xs, SqT K H a xs → xs[i]? = some x, fun i H => ∃ xs : List V, SqT K H a xs ∧ xs.length ≤ i⟩
theorem turn_enumT {P : Program} {w : World} {K : PySem.W.Frag} {elts : List Expr} {kk : Nat} {tpos : Pos} (a e it : Addr) :
    Turn P w K (.Tuple elts kk tpos) (IteT K a) [e, it] e (fun i h => (∃ old, IsEnum h e it ((i : Nat) : Int) old) ∧ h.IsTupleIter it a i ∧ e ≠ it) where
  mem := by simp
  obj := fun i h st b hb => by
    obtain ⟨⟨old, he⟩, ⟨o, ho, hc, hd⟩, _⟩ := st
    have e' : b = e ∨ b = it := by simpa using hb
    rcases e' with z | z
    · rw [z]; exact ⟨_, he, fun v q => nomatch q⟩
    · rw [z]; exact ⟨o, ho, fun v q => by rw [hd] at q; cases q⟩
  keep := fun i h h' st k => let ⟨⟨old, he⟩, hi, hne⟩ := st; ⟨⟨old, k e (by simp) _ he⟩, hi.at fun o q => k it (by simp) o q, hne⟩
  item := by
    intro X hP hw hK hc i pins s σ H E I hf st hg
    subst hP hw hK
    obtain ⟨⟨old, he⟩, hit, hne⟩ := st
    obtain ⟨xs, x, hq, hx⟩ := hg
    obtain ⟨its, rv, p, hz⟩ := I.tuple hq
    obtain ⟨u, hu, ru⟩ := rv.get hx
    have hel : e < s.heap.objs.size := Heap.lt_size he
    have hil : it < s.heap.objs.size := by obtain ⟨_, q, _⟩ := hit; exact Heap.lt_size q
    obtain ⟨f0, f1, f2, f3, f4, f5⟩ := hf it (by simp)
    obtain ⟨ot, hot, hct, hdt⟩ := id p
    have hai : a ≠ it := fun z => by
      obtain ⟨oi, hoi, hci, _⟩ := id hit
      subst z
      rw [hot] at hoi; cases hoi
      rw [hct] at hci; exact absurd (Value.type.inj hci) (by decide)
    have hae : a ≠ e := fun z => by
      subst z
      have he' : s.heap.get? a = some _ := he
      rw [hot] at he'; cases he'
      exact absurd (Value.type.inj hct) (by decide)
    have D := Draws.tuple (prog := X.prog) (w := X.w) (A := X.A.in1) (I.ok.hd hc) it a hai its.toArray
    have hlt : i < its.toArray.size := by
      have := (List.getElem?_eq_some_iff.mp hu).1
      simpa using this
    refine wpAny_pyNext_enum_itemC (c := (i : Int)) D he ⟨hit, (show s.heap.IsTuple a its.toArray from p)⟩ hlt hne (fun hm => ?_) fun x' h' tk hP' ho st' hT hsz hk => ?_
    · have e' : e = it ∨ e = a := by simpa using hm
      rcases e' with z | z
      · exact hne z
      · exact hae z.symm
    have ex : x' = u := by
      have e1 : its.toArray[i]? = some x' := hP'
      have e2 : its.toArray[i]? = some u := by simpa using hu
      rw [e1] at e2; exact Option.some.inj e2
    subst ex
    refine ⟨_, rfl, wpAny_letOwnedTupleGo_enum (s := { s with heap := h', toks := tk + 1 }) ho fun h'' he' sb => ?_⟩
    have hT2 : h''.get? s.heap.objs.size = some { cls := .type "tuple", data := .seq #[.int i tk, x'] } := (sb.2 _ (Nat.ne_of_gt hel)).trans hT
    have new : ObjOk X.prog X.w (upd H s.heap.objs.size (.tup [.int (i : Nat), x])) h'' s.heap.objs.size (.tup [.int (i : Nat), x]) :=
      ⟨by show 2 ≤ sizeLine; decide, [.int i tk, x'], .cons ⟨_, rfl⟩ (.cons ru .nil), ⟨_, hT2, rfl, _, rfl⟩⟩
    have I1 : Inv X pins σ (upd H s.heap.objs.size (.tup [.int (i : Nat), x])) { s with heap := h'', toks := tk + 1 } :=
      I.turnedNew (ch := [e, it]) (fun b ob hb q => (sb.2 b (fun z => hb (by simp [z]))).trans (hk b ob (fun z => hb (by simp [z])) (fun z => hb (by simp [z])) q)) hf (Nat.le_refl _) new
    refine ⟨.ref s.heap.objs.size, _, I1, rfl, ⟨_, x, rfl, I.hok.fresh (Nat.le_refl _), rfl, fun ys hy => by rw [I.tuple_inj hy hq]; exact hx⟩, ⟨⟨x', ?_⟩, st'.1.at fun o q => (sb.2 it (Ne.symm hne)).trans q, hne⟩, fun b hb => ?_⟩
    · have e1 : ((i + 1 : Nat) : Int) = (i : Int) + 1 := by omega
      rw [e1]; exact he'
    · have hb' : b < s.heap.objs.size := by
        have e' : b = e ∨ b = it := by simpa using hb
        rcases e' with z | z
        · rw [z]; exact hel
        · rw [z]; exact hil
      rw [upd_ne (Nat.ne_of_lt hb')]
      exact (hf b hb).1
  done := by
    intro X hP hw hK hc i pins s σ H E I hf st hg
    subst hP hw hK
    obtain ⟨⟨old, he⟩, hit, hne⟩ := st
    obtain ⟨xs, hq, hx⟩ := hg
    obtain ⟨its, rv, p, hz⟩ := I.tuple hq
    obtain ⟨f0, f1, f2, f3, f4, f5⟩ := hf it (by simp)
    have hl := rv.length
    have hT : s.TypeIs (.ref e) "enumerate" := ⟨_, he, rfl⟩
    unfold pyNext
    refine wpAny_bind (wpAny_attempt (wpAny_callSpecial?_slot (name := Str.ofString "__next__") hT F.slot_enumerate_next
      (wpAny_call_entry F.slot_enumerate_next hT F.entry_enumerate_next ?_ (F.args_enumerate_next_1 _))))
    show wpAny _ _ (field (.ref e) 2 >>= _) _ _ _
    refine wpAny_bind (wpAny_field he rfl (x := .ref it) rfl ?_)
    refine wpAny_bind (wpAny_nextOf_tuple_end (A := X.A.in1) (I.ok.hd hc) hit (show s.heap.IsTuple a its.toArray from p) (by simp; omega) fun h' x he' hx' => ?_)
    obtain ⟨o, ho, hcc⟩ := hx'
    refine wpAny_bind (wpAny_isInstance (T := "StopIteration") (b := true) ⟨o, ho, hcc⟩ isSubtype_stop ?_)
    exact wpAny_pure ⟨rfl, I.turned (t' := s.toks) (fun b o hb q => he' b o hb q) f0 f1 f3 f4 f5⟩
  self := fun A i s Q E st h => let ⟨⟨_, he⟩, _⟩ := st; wpAny_pyIter_enum he h
def iEnumA (K : PySem.W.Frag) (ta : TA) : TI := fun σ H R => ta σ H fun vs H1 => ∃ a, vs = [.ref a] ∧ (((∃ xs, SqL K H1 a xs) ∧ R (Ite K a) H1) ∨ ((∃ xs, SqT K H1 a xs) ∧ R (IteT K a) H1))
theorem pi_enumA {X : Cx} {e : Expr} {ta : TA} {p pos tpos : Pos} {elts : List Expr} {kk : Nat} (hg : Gl X "enumerate") (hm : X.mg "enumerate" = none) (ha : PA X [e] ta) (hs : starEach [e] X.env = [(false, eval e X.env)] := by rfl) :
    PI X (.Tuple elts kk tpos) (.Call (.Name "enumerate" p) [e] [] pos) (iEnumA X.K ta) := by
  refine ⟨fun pins s σ H R I h => ?_⟩
  refine Call_ (ld_blt I hg hm boot_enumerate (PyProof.Rows.callWith_type1 (thn (ha.run pos pins s σ H _ I h) fun us s1 ⟨vs, H1, I1, r1, q1⟩ => ?_) hs rfl))
  obtain ⟨a, ex, q⟩ := q1
  subst ex
  cases r1 with
  | cons r rr =>
    cases rr
    cases r
    have fp : ∀ b ∈ [s1.heap.objs.size + 1, s1.heap.objs.size], FpOk X pins H1 b := fun b hb => by
      have e' : b = s1.heap.objs.size + 1 ∨ b = s1.heap.objs.size := by simpa using hb
      have hle : s1.heap.objs.size ≤ b := by
        rcases e' with z | z
        · rw [z]; exact Nat.le_add_right _ _
        · rw [z]; exact Nat.le_refl _
      exact I1.fpOk hle (I1.hok.fresh hle)
    rcases q with ⟨⟨xs, hq⟩, q⟩ | ⟨⟨xs, hq⟩, q⟩
    · obtain ⟨its, rv, p', hz⟩ := I1.list hq
      refine call_enumerate_list p'.isList fun h' he hit hsz hk => wpAny_pyIter_enum he ?_
      have I2 : Inv X pins σ H1 { s1 with heap := h' } := I1.kept (t' := s1.toks) hk
      exact ⟨s1.heap.objs.size + 1, [s1.heap.objs.size + 1, s1.heap.objs.size], _, _, H1, rfl, I2, turn_enum a (s1.heap.objs.size + 1) s1.heap.objs.size, ⟨⟨.none, he⟩, hit, Nat.succ_ne_self _⟩, fp, q⟩
    · obtain ⟨its, rv, p', hz⟩ := I1.tuple hq
      refine enum1_begins (begins_tuple a its.toArray) (show s1.heap.IsTuple a its.toArray from p') fun h' he hit hsz hk => wpAny_pyIter_enum he ?_
      have I2 : Inv X pins σ H1 { s1 with heap := h' } := I1.kept (t' := s1.toks) hk
      exact ⟨s1.heap.objs.size + 1, [s1.heap.objs.size + 1, s1.heap.objs.size], _, _, H1, rfl, I2, turn_enumT a (s1.heap.objs.size + 1) s1.heap.objs.size, ⟨⟨.none, he⟩, ⟨_, hit, rfl, rfl⟩, Nat.succ_ne_self _⟩, fp, q⟩
end Eh

namespace Eh
open PySem PySem.Spec PyProof.Rows L2 HotX
/-! ### comprehensions within an except suite -/
theorem next_list_end_hot {prog : Program} {w : World} {A : Around} {E : Value → Shared → Prop} {s : Shared} {it l x1 : Addr} {i : Nat} {items : Array Value} {Q : Option Value → Shared → Prop} (hot : HotAt A x1 s.heap)
    (hit : s.heap.IsListIter it l i) (hl : s.heap.IsList l items) (hx : items[i]? = none) (hxi : x1 ≠ it)
    (hQ : ∀ h', Heap.ExtBut it s.heap h' → Q none { s with heap := h' }) : wpAny (model prog w) A (pyNext (.ref it)) Q E s := by
  obtain ⟨o, ho, hc, hd⟩ := id hit
  obtain ⟨ol, hol, _, nl, hdl⟩ := hl
  obtain ⟨hh, o1, vs1, h1, d1, c1⟩ := hot
  unfold pyNext
  refine wpAny_bind (wpAny_attempt (wpAny_callSpecial?_slot (name := Str.ofString "__next__") hit.typeIs slot_listiter_next
    (wpAny_call_entry slot_listiter_next hit.typeIs entry_listiter_next ?_ (args_listiter_next _))))
  show wpAny _ _ (field (.ref it) 0 >>= _) _ _ s
  refine wpAny_bind (wpAny_field ho hd (x := .ref l) rfl ?_)
  show wpAny _ _ (if (Value.ref l == Value.none) = true then _ else _) _ _ s
  rw [if_neg (show ¬ ((Value.ref l == Value.none) = true) from Bool.false_ne_true)]
  show wpAny _ _ (field (.ref it) 1 >>= _) _ _ s
  refine wpAny_bind (wpAny_field ho hd (x := .int i 0) rfl ?_)
  show wpAny _ _ (seqItems? (.ref l) >>= _) _ _ s
  refine wpAny_bind (wpAny_seqItems hol hdl ?_)
  simp only [Int.toNat_natCast, hx]
  refine wpAny_bind (wpAny_rule (wpAny_bind (wpAny_setField ho hd (by simp) ?_)))
  show wpAny _ _ (newExc (.type "StopIteration") [] >>= _) _ _ _
  refine wpAny_bind ?_
  simp only [newExc, newTuple]
  refine wpAny_bind (wpAny_newObj_type ?_ (by size_fits))
  refine wpAny_bind (m := firstArgMember _ _) (wpAny_of_eq (a := Value.none) (by first | rfl | (simp only [firstArgMember]; rfl)) ?_)
  refine wpAny_newObj_type ?_ (by size_fits)
  have sb : Heap.SameBut it s.heap (s.heap.update it (Obj.mapFields (·.setIfInBounds 0 .none))) := Heap.SameBut.update ..
  have h1' := (sb.2 x1 hxi).trans h1
  refine raiseNew_hot ⟨hh, o1, vs1, Heap.get?_push_of_some _ (Heap.get?_push_of_some _ h1'), d1, c1⟩ (Nat.ne_of_lt (Heap.lt_size (Heap.get?_push_of_some _ h1'))) (Heap.get?_push_size _ rfl) rfl (by first | (simp; done) | (simp; omega) | (simp only [Array.size_append]; simp; omega)) ?_
  refine wpAny_bind (wpAny_isInstance (T := "StopIteration") (b := true) ⟨_, Heap.get?_update_self _ (Heap.get?_push_size _ rfl) rfl, rfl⟩ isSubtype_stop ?_)
  refine wpAny_pure (hQ _ fun b ob hb e => ?_)
  have e' := sb.extBut b ob hb e
  rw [Heap.get?_update_other _ _ (Nat.ne_of_gt (Heap.lt_size (Heap.get?_push_of_some _ e')))]
  exact Heap.get?_push_of_some _ (Heap.get?_push_of_some _ e')
/-- an iterator that turns while an exception is handled -/
structure TurnK (P : Program) (w : World) (K : PySem.W.Frag) (tg : Expr) (J : It) (fp : List Addr) (it : Addr) (tn : Nat → Heap → Prop) : Prop where
  mem : it ∈ fp
  obj : ∀ i h, tn i h → ∀ b ∈ fp, ∃ o, h.get? b = some o ∧ ∀ v, o.data ≠ .cell v
  keep : ∀ i h h', tn i h → (∀ b ∈ fp, ∀ o, h.get? b = some o → h'.get? b = some o) → tn i h'
  item : ∀ (X : Cx), X.prog = P → X.w = w → X.K = K → ∀ (i : Nat) (pins : List (Addr × Obj)) (s : Shared) (σ : L2.St) (H : Hp) (E : Value → Shared → Prop), Inv X pins σ H s → (∀ b ∈ fp, FpOk X pins H b) → tn i s.heap → J.go i H →
    wpAny (model P w) X.A (pyNext (.ref it)) (fun r s1 => ∃ u, r = some u ∧
      wpAny (model P w) X.A (letOwnedTupleGo tg (.ref it) u) (fun _ s2 => ∃ x H', Inv X pins σ H' s2 ∧ RelV x u ∧ J.yld i H x H' ∧ tn (i + 1) s2.heap ∧ ∀ b ∈ fp, H' b = none) E s1) E s
  done : ∀ (X : Cx), X.prog = P → X.w = w → X.K = K → ∀ (x1 : Addr) (i : Nat) (pins : List (Addr × Obj)) (s : Shared) (σ : L2.St) (H : Hp) (E : Value → Shared → Prop), Inv X pins σ H s → HotAt X.A x1 s.heap → x1 ≠ it → (∀ b ∈ fp, FpOk X pins H b) → tn i s.heap → J.stop i H →
    wpAny (model P w) X.A (pyNext (.ref it)) (fun r s1 => r = none ∧ Inv X pins σ H s1) E s
  self : ∀ (A : Around) (i : Nat) (s : Shared) (Q : Value → Shared → Prop) (E : Value → Shared → Prop), tn i s.heap → Q (.ref it) s → wpAny (model P w) A (pyIter (.ref it)) Q E s
theorem turn_listK {P : Program} {w : World} {K : PySem.W.Frag} {tg : Expr} (a it : Addr) : TurnK P w K tg (Itl K a) [it] it (fun i h => h.IsListIter it a i) where
  mem := by simp
  obj := fun i h st b hb => by
    have e : b = it := by simpa using hb
    subst e
    obtain ⟨o, e, c, d⟩ := st
    exact ⟨o, e, fun v z => by rw [d] at z; cases z⟩
  keep := fun i h h' st k => st.at fun o e => k it (by simp) o e
  item := by
    intro X hP hw hK i pins s σ H E I hf st hg
    subst hP hw hK
    obtain ⟨xs, x, hq, hx⟩ := hg
    obtain ⟨its, rv, p, hz⟩ := I.list hq
    obtain ⟨u, hu, ru⟩ := rv.get hx
    obtain ⟨f0, f1, f2, f3, f4, f5⟩ := hf it (by simp)
    refine wpAny_pyNext_list_item st p.isList (x := u) (by simpa using hu) fun h' st' sb => ?_
    have I1 : Inv X pins σ H { s with heap := h' } := I.turned (t' := s.toks) (fun b o hb e => (sb.2 b hb).trans e) f0 f1 f3 f4 f5
    obtain ⟨o, e, c, d⟩ := id st'
    exact ⟨u, rfl, go_of (s := { s with heap := h' }) e c d (by decide) ⟨x, H, I1, ru, ⟨rfl, fun ys hy => by rw [I.list_inj hy hq]; exact hx⟩, st', fun b hb => (hf b hb).1⟩⟩
  done := by
    intro X hP hw hK x1 i pins s σ H E I hot hxi hf st hg
    subst hP hw hK
    obtain ⟨xs, hq, hx⟩ := hg
    obtain ⟨its, rv, p, hz⟩ := I.list hq
    obtain ⟨f0, f1, f2, f3, f4, f5⟩ := hf it (by simp)
    have hl := rv.length
    exact next_list_end_hot hot st p.isList (by simp; omega) hxi fun h' eb => ⟨rfl, I.turned (t' := s.toks) (fun b o hb e => eb b o hb e) f0 f1 f3 f4 f5⟩
  self := fun _ _ _ _ _ st h => wpAny_pyIter_listiter st h
theorem turn_rangeK {P : Program} {w : World} {K : PySem.W.Frag} {tg : Expr} (it : Addr) (lo : Int) (n : Nat) : TurnK P w K tg (Itr lo n) [it] it (fun i h => IsRangeIter h it (lo + (i : Nat) * 1) ((n : Int) - (i : Nat)) 1) where
  mem := by simp
  obj := (L2H.turn_rangeH (P := P) (w := w) (K := K) (tg := tg) it lo n).obj
  keep := (L2H.turn_rangeH (P := P) (w := w) (K := K) (tg := tg) it lo n).keep
  item := by
    intro X hP hw hK i pins s σ H E I hf st hg
    subst hP hw hK
    obtain ⟨f0, f1, f2, f3, f4, f5⟩ := hf it (by simp)
    have hlt : i < n := hg
    refine wpAny_pyNext_range_item st (by omega) fun h' st' sb => ?_
    have st2 : IsRangeIter h' it (lo + ((i + 1 : Nat) : Int) * 1) ((n : Int) - ((i + 1 : Nat) : Int)) 1 := by
      have e1 : lo + ((i : Nat) : Int) * 1 + 1 = lo + ((i + 1 : Nat) : Int) * 1 := by omega
      have e2 : (n : Int) - ((i : Nat) : Int) - 1 = (n : Int) - ((i + 1 : Nat) : Int) := by omega
      rw [← e1, ← e2]
      exact st'
    have I1 : Inv X pins σ H { s with heap := h', toks := s.toks + 1 } := I.turned (fun b o hb e => (sb.2 b hb).trans e) f0 f1 f3 f4 f5
    refine ⟨_, rfl, go_of (s := { s with heap := h', toks := s.toks + 1 }) (n := "range_iterator") st2 rfl rfl (by decide) ⟨.int (lo + i), H, I1, ⟨s.toks, ?_⟩, ⟨rfl, rfl⟩, st2, fun b hb => (hf b hb).1⟩⟩
    rw [Int.mul_one]
  done := by
    intro X hP hw hK x1 i pins s σ H E I hot hxi hf st hg
    subst hP hw hK
    obtain ⟨f0, f1, f2, f3, f4, f5⟩ := hf it (by simp)
    exact pyNext_range_end_hot hot st (by have : n ≤ i := hg; omega) fun h' eb => ⟨rfl, I.turned (t' := s.toks) (fun b o _ e => eb b o e) f0 f1 f3 f4 f5⟩
  self := fun _ _ _ _ _ st h => wpAny_pyIter_rangeiter st h
def PIEK (X : Cx) (pins : List (Addr × Obj)) (σ : L2.St) (tg : Expr) (R : It → Hp → Prop) (itv : Value) (s2 : Shared) : Prop :=
  ∃ (it : Addr) (fp : List Addr) (tn : Nat → Heap → Prop) (J : It) (H' : Hp), itv = .ref it ∧ Inv X pins σ H' s2 ∧ TurnK X.prog X.w X.K tg J fp it tn ∧ tn 0 s2.heap ∧ (∀ b ∈ fp, FpOk X pins H' b) ∧ R J H'
structure PIK (X : Cx) (tg iter : Expr) (wi : TI) : Prop where
  run : ∀ (pins : List (Addr × Obj)) (s : Shared) (σ : L2.St) (H : Hp) (R : It → Hp → Prop), Inv X pins σ H s → wi σ H R →
    wpAny (model X.prog X.w) X.A (eval iter X.env) (fun v s1 => wpAny (model X.prog X.w) X.A (pyIter v) (PIEK X pins σ tg R) X.xe s1) X.xe s
theorem pi_listK {X : Cx} {tg l : Expr} {tl : TE} (hl : PE X l tl) : PIK X tg l (iList X.K tl) := by
  refine ⟨fun pins s σ H R I h => ?_⟩
  refine thn (hl.run pins s σ H _ I h) fun v s1 ⟨x, H1, I1, r1, q1⟩ => ?_
  obtain ⟨a, e, ⟨xs, hq⟩, q⟩ := q1
  subst e
  cases r1
  obtain ⟨its, rv, p, hz⟩ := I1.list hq
  refine wpAny_pyIter_list p.isList ?_
  refine ⟨s1.heap.objs.size, [s1.heap.objs.size], _, _, H1, rfl, I1.kept (t' := s1.toks) fun b o e => Heap.get?_push_of_some _ e, turn_listK a _, ⟨_, Heap.get?_push_size _ rfl, rfl, rfl⟩, fun b hb => ?_, q⟩
  have e : b = s1.heap.objs.size := by simpa using hb
  subst e
  exact I1.fpOk (Nat.le_refl _) (I1.hok.fresh (Nat.le_refl _))
theorem pi_range1K {X : Cx} {tg a : Expr} {ta : TA} {p pos : Pos} (hg : Gl X "range") (hm : X.mg "range" = none) (ha : PA X [a] ta) (hs : starEach [a] X.env = [(false, eval a X.env)] := by rfl) : PIK X tg (.Call (.Name "range" p) [a] [] pos) (iRng1 ta) := by
  refine ⟨fun pins s σ H R I h => ?_⟩
  refine Call_ (ld_blt I hg hm boot_range (PyProof.Rows.callWith_type1 (thn (ha.run pos pins s σ H _ I h) fun us s1 ⟨vs, H1, I1, r1, q1⟩ => ?_) hs rfl))
  obtain ⟨j, e, q1, q2, q⟩ := q1
  subst e
  cases r1 with
  | cons r rr =>
    cases rr
    obtain ⟨t, rfl⟩ := r
    refine call_range_1 (wpAny_pyIter_range (IsRange.new ..) (small_one (by omega) (by omega) q1 q2) ?_)
    have I2 : Inv X pins σ H1 { s1 with heap := s1.heap.push { cls := .type "range", data := .fields #[.int 0 s1.toks, .int j t, .int 1 (s1.toks + 1)] }, toks := s1.toks + 1 + 1 } := I1.kept fun b o e => Heap.get?_push_of_some _ e
    refine ⟨_, [_], _, _, H1, rfl, I2.kept (t' := s1.toks + 1 + 1) fun b o e => Heap.get?_push_of_some _ e, turn_rangeK _ 0 j.toNat, ?_, fun b hb => ?_, q⟩
    · have e1 : (0 : Int) + ((0 : Nat) : Int) * 1 = 0 := by omega
      have e2 : ((j.toNat : Nat) : Int) - ((0 : Nat) : Int) = Builtin.Range.rangeSize 0 j 1 := by rw [rangeSize_one]; split <;> omega
      show IsRangeIter _ _ ((0 : Int) + ((0 : Nat) : Int) * 1) (((j.toNat : Nat) : Int) - ((0 : Nat) : Int)) 1
      rw [e1, e2]
      exact Heap.get?_push_size _ rfl
    · have e := List.mem_singleton.mp hb
      subst e
      exact I2.fpOk (Nat.le_refl _) (I2.hok.fresh (Nat.le_refl _))

section
variable {X : Cx}
/-- the block of a comprehension in a suite, p the handled exception -/
theorem lc_coreK {pins : List (Addr × Obj)} {s : Shared} {σ : L2.St} {H : Hp} {Q : VK} {elt tg iter : Expr} {ifs : List Expr} {scope : Scope} {own : List (Str × Nat)} {pos : Pos} {wi : TI} {g : TG} {tt : TT} {te : TE} {p : Addr × Obj}
    (hp : L2H.Hot1 X.A p) (hpn : p ∈ X.pn) (hN : X.N.Nodup) (I : Inv X pins σ H s) (hi : PIK X tg iter wi) (ok : BlkOk X.N X.env.scope scope own)
    (hg : ∀ (s : Shared) (H : Hp) (C : Addr) (cl : List (Str × Addr)) (fp : List Addr), PG (X.blk s H scope (compEnvC scope cl C X.env) fp) tg g) (ht : ∀ (s : Shared) (H : Hp) (C : Addr) (cl : List (Str × Addr)) (fp : List Addr), PTs (X.blk s H scope (compEnvC scope cl C X.env) fp) ifs tt)
    (he : ∀ (s : Shared) (H : Hp) (C : Addr) (cl : List (Str × Addr)) (fp : List Addr), PE (X.blk s H scope (compEnvC scope cl C X.env) fp) elt te) (hs : ∀ x, foldedSetIterable iter X.env x = pure x)
    (h : tLc wi g tt te (own.map (·.2)) σ H Q) :
    wpAny (model X.prog X.w) X.A (eval (.ListComp elt [⟨tg, iter, ifs, 0⟩] scope pos) X.env) (EP X pins σ Q) X.xe s := by
  rw [eval_ListComp]
  have hfree : ∀ y ∈ scope.names, y.2 = .free → ∃ c, X.env.cells.lookup y.1 = some c := fun y hy e => by
    rcases ok.free y hy e with k | k
    · exact I.ok.has _ (.inl k)
    · exact I.ok.has _ (.inr k)
  refine wpAny_comprehension_free rfl hs (closure_ok hfree) ok.kind (fun y hy e => by rw [ok.uniq y hy, e])
    (thn (hi.run pins s σ H _ I h) fun xv s1 hx => thn hx fun itv s2 h2 => ?_)
  obtain ⟨it, fp, tn, J, H2, e, I2, T, st2, f2, q⟩ := h2
  subst e
  refine wpAny_newObj_type (newEnv_comp ?_) (by show 0 ≤ sizeLine; decide)
  generalize hD : s2.heap.objs.size = D
  have hDn : H2 D = none := I2.hok.fresh (Nat.le_of_eq hD)
  obtain ⟨W, ⟨m0, w0⟩, turn⟩ := q D hDn
  generalize hs3 : ({ s2 with heap := s2.heap.push { cls := .type "list", data := .seq ([] : List Value).toArray } } : Shared) = s3
  have I3 : Inv X pins σ (upd H2 D (.lst [])) s3 := by
    rw [← hs3]
    refine I2.laid (t' := s2.toks) (fun b o e => Heap.get?_push_of_some _ e) (Nat.le_of_eq hD) ⟨Nat.zero_le _, [], 0, .nil, ?_⟩
    rw [← hD]
    exact Heap.get?_push_size _ rfl
  have h3 : s3.heap = s2.heap.push { cls := .type "list", data := .seq ([] : List Value).toArray } := by rw [← hs3]
  have sz : ∀ b ∈ fp, b < s2.heap.objs.size := fun b hb => by
    obtain ⟨o, e, _⟩ := T.obj _ _ st2 b hb
    exact Heap.lt_size e
  have f3 : ∀ b ∈ fp, FpOk X pins (upd H2 D (.lst [])) b ∧ b < s3.heap.objs.size := fun b hb => by
    have hlt := sz b hb
    refine ⟨⟨?_, (f2 b hb).2⟩, by rw [h3, Heap.size_push]; exact Nat.lt_succ_of_lt hlt⟩
    rw [upd_ne (by rw [← hD]; exact Nat.ne_of_lt hlt)]
    exact (f2 b hb).1
  have pa : ∀ b ∈ fp, p.1 ≠ b := fun b hb => (f2 b hb).2.2.2.2.2 p (List.mem_append_left _ hpn)
  have st3 : tn 0 s3.heap := T.keep _ _ _ st2 fun b _ o e => by rw [h3]; exact Heap.get?_push_of_some _ e
  have I4 := block_start I3 ok hN f3
  have pin3 := I3.pin p (List.mem_append_left _ hpn)
  have pg := hg s3 (upd H2 D (.lst [])) s3.heap.objs.size (cellsFrom (s3.heap.objs.size + 1) scope.names (cloFrom X.env.cells scope.names [])) fp
  have pt := ht s3 (upd H2 D (.lst [])) s3.heap.objs.size (cellsFrom (s3.heap.objs.size + 1) scope.names (cloFrom X.env.cells scope.names [])) fp
  have pe := he s3 (upd H2 D (.lst [])) s3.heap.objs.size (cellsFrom (s3.heap.objs.size + 1) scope.names (cloFrom X.env.cells scope.names [])) fp
  show codeAny _ _ (.compStart (.ListComp elt [⟨tg, iter, ifs, 0⟩] scope pos) 0 (.ref it) (.ref D) (compEnvC scope (cellsFrom (s3.heap.objs.size + 1) scope.names (cloFrom X.env.cells scope.names [])) s3.heap.objs.size X.env)) (compPost (model X.prog X.w) X.A X.xe none (EP X pins σ Q) (.ref D) s3.heap.objs.size) { s3 with heap := pushCells (s3.heap.push { cls := .type "dict", data := .dict #[] }) scope.names }
  have nfp : ∀ b ∈ fp, (upd H2 D (.lst [])) b = none := fun b hb => (f3 b hb).1.1
  generalize hce : compEnvC scope (cellsFrom (s3.heap.objs.size + 1) scope.names (cloFrom X.env.cells scope.names [])) s3.heap.objs.size X.env = ce at I4 pg pt pe ⊢
  have cL : ce.locals = s3.heap.objs.size := by subst hce; rfl
  generalize hH3 : upd H2 D (.lst []) = H3 at I3 I4 pg pt pe w0 nfp f3 pin3
  generalize hs4 : ({ s3 with heap := pushCells (s3.heap.push { cls := .type "dict", data := .dict #[] }) scope.names } : Shared) = s4 at I4 ⊢
  have k34 : ∀ b o, s3.heap.get? b = some o → s4.heap.get? b = some o := fun b o e => by rw [← hs4]; exact pushCells_keeps _ _ _ _ (Heap.get?_push_of_some _ e)
  have st4 : tn 0 s4.heap := T.keep _ _ _ st3 fun b _ o e => k34 b o e
  have J4 : Inv (X.blk s3 H3 scope ce fp) [p] (L2.wipe σ (own.map (·.2))) H3 s4 := I4.pins_of fun q hq => by
    have e := List.mem_singleton.mp hq
    subst e
    obtain ⟨e1, e2, e3, e4, e5⟩ := pin3
    refine ⟨k34 _ _ e1, e2, fun z => ?_, fun z => ?_, e5⟩
    · have z' : q.1 = s3.heap.objs.size := z.trans cL
      exact absurd (Heap.lt_size e1) (by rw [z']; exact Nat.lt_irrefl _)
    · exact (fun z2 => (List.mem_cons.mp z2).elim e3 e4) (I3.stkSub q.1 z)
  have hotAt : ∀ {σ' : L2.St} {H' : Hp} {s' : Shared} {ps : List (Addr × Obj)}, Inv (X.blk s3 H3 scope ce fp) ([p] ++ ps) σ' H' s' → HotAt X.A p.1 s'.heap := fun {σ' H' s' ps} I' => by
    obtain ⟨hh, v1, e1, c1⟩ := hp
    exact ⟨hh, p.2, v1, (I'.pin p (List.mem_append_right _ (List.mem_append_left _ (by simp)))).1, e1, c1⟩
  have stat : ∀ {σ' : L2.St} {H' : Hp} {s' : Shared}, Inv (X.blk s3 H3 scope ce fp) [p] σ' H' s' → (∀ b ∈ fp, H' b = none) → ∀ b ∈ fp, FpOk (X.blk s3 H3 scope ce fp) [p] H' b := fun {σ' H' s'} I' hn b hb =>
    ⟨hn b hb, (I'.ok.exf b hb).1, I'.ok.exfs b hb, .inl hb, fun x c e => (I'.ok.exf b hb).2 x c e, fun q hq => by
      have e : q = p := List.mem_singleton.mp (show q ∈ [p] from hq)
      subst e
      exact pa b hb⟩
  have loop : codeAny (model X.prog X.w) X.A (.compLoop (.ListComp elt [⟨tg, iter, ifs, 0⟩] scope pos) 0 (.ref it) (.ref D) ce) (compPost (model X.prog X.w) X.A X.xe none (EP X pins σ Q) (.ref D) s3.heap.objs.size) s4 := by
    refine compLoop_any (fun n s' => ∃ i H', Inv (X.blk s3 H3 scope ce fp) [p] (L2.wipe σ (own.map (·.2))) H' s' ∧ tn i s'.heap ∧ (∀ b ∈ fp, H' b = none) ∧ W i n H') ?_ m0 ⟨0, H3, J4, st4, nfp, w0⟩
    rintro n s5 ⟨i, H5, I5, st5, n5, w5⟩
    rcases turn i n H5 w5 with ⟨stop, qq⟩ | ⟨go, Nx, hNx, step⟩
    · have td := T.done (X.blk s3 H3 scope ce fp) rfl rfl rfl p.1 i [p] s5 _ H5 (fun _ _ => False) I5 (hotAt (ps := []) (by simpa using I5)) (pa it T.mem) (stat I5 n5) st5 stop
      refine thnF td fun r s6 ⟨hr, I6⟩ => ?_
      subst hr
      have I7 : Inv X pins σ H5 s6 := I3.call' (ch := fp) I6.os I6.base I6.hok I6.bare fun b hb => ⟨(f3 b hb).1.2.2.2.1, (f3 b hb).1.2.1, (f3 b hb).1.2.2.2.2.1, (f3 b hb).1.2.2.2.2.2⟩
      have nC : H5 s3.heap.objs.size = none := by
        have z : H5 ce.locals = none := I6.free
        rw [cL] at z
        exact z
      obtain ⟨m, hn, _⟩ := I6.loc
      have hn : s6.heap.Ns ce.locals m := hn
      rw [cL] at hn
      obtain ⟨f0, f1, f2', f3', f4, f5⟩ := I3.fpOk (Nat.le_refl _) nC
      exact ⟨m, hn, fun h'' sb => ⟨.ref D, H5, I7.turned (t' := s6.toks) (fun b o hb e => (sb.2 b hb).trans e) f0 f1 f3' f4 f5, rfl, qq⟩⟩
    · have ti := T.item (X.blk s3 H3 scope ce fp) rfl rfl rfl i [p] s5 _ H5 (fun _ _ => False) I5 (stat I5 n5) st5 go
      refine thnF ti fun r s6 ⟨u, hr, h6⟩ => ?_
      subst hr
      refine thnF h6 fun _ s7 ⟨x, H7, I7, r7, y7, st7, n7⟩ => ?_
      have I7' := I7.pinned (stat I7 n7) (T.obj _ _ st7)
      refine thnF (pg.run _ s7 _ H7 x u _ I7' r7 (step x H7 y7)) fun _ s8 ⟨σ8, H8, I8, hw8, q8⟩ => ?_
      refine thnF (pt.run _ s8 σ8 H8 _ I8 q8) fun b s9 ⟨H9, I9, q9⟩ => ?_
      have fin : ∀ {s' : Shared} {H' : Hp}, Inv (X.blk s3 H3 scope ce fp) ([p] ++ pinsAt fp s7.heap) σ8 H' s' → Nx H' → ∃ m, m < n ∧ ∃ i H', Inv (X.blk s3 H3 scope ce fp) [p] (L2.wipe σ (own.map (·.2))) H' s' ∧ tn i s'.heap ∧ (∀ b ∈ fp, H' b = none) ∧ W i m H' := fun {s' H'} I' nx => by
        obtain ⟨m', hm, w'⟩ := hNx H' nx
        have pin' : ∀ b ∈ fp, ∀ o, s7.heap.get? b = some o → s'.heap.get? b = some o ∧ H' b = none := fun b hb o e =>
          let z := I'.pin (b, o) (List.mem_append_right _ (List.mem_append_right _ (mem_pinsAt hb e)))
          ⟨z.1, z.2.1⟩
        have hl : (L2.wipe σ (own.map (·.2))).length = σ8.length := by rw [← hw8, wipe_length]
        refine ⟨m', hm, i + 1, H', (I'.unpinned (pins := [p])).weak hl (fun j v e => ?_), T.keep _ _ _ st7 fun b hb o e => (pin' b hb o e).1, fun b hb => ?_, w'⟩
        · rw [← hw8] at e
          exact (wipe_some e).1
        · obtain ⟨o, e, _⟩ := T.obj _ _ st7 b hb
          exact (pin' b hb o e).2
      cases b with
      | false =>
        simp only [Bool.false_eq_true, if_false] at q9 ⊢
        exact fin I9 q9
      | true =>
        simp only [if_true] at q9 ⊢
        refine thnF (pe.run _ s9 σ8 H9 _ I9 q9) fun z s10 ⟨yv, H10, I10, r10, acc, hD10, hz10, nx⟩ => ?_
        exact app_ok (X := X.blk s3 H3 scope ce fp) I10 hD10 hz10 r10 fun s11 I11 => fin I11 nx
  exact codeAny_compStart_list loop (T.self X.A 0 _ _ _ st4 loop)
theorem pe_lcK {elt tg iter : Expr} {ifs : List Expr} {scope : Scope} {own : List (Str × Nat)} {pos : Pos} {wi : TI} {g : TG} {tt : TT} {te : TE} (hc : L2H.HotC X) (hN : X.N.Nodup) (hi : PIK X tg iter wi) (ok : BlkOk X.N X.env.scope scope own)
    (hg : ∀ (s : Shared) (H : Hp) (C : Addr) (cl : List (Str × Addr)) (fp : List Addr), PG (X.blk s H scope (compEnvC scope cl C X.env) fp) tg g) (ht : ∀ (s : Shared) (H : Hp) (C : Addr) (cl : List (Str × Addr)) (fp : List Addr), PTs (X.blk s H scope (compEnvC scope cl C X.env) fp) ifs tt)
    (he : ∀ (s : Shared) (H : Hp) (C : Addr) (cl : List (Str × Addr)) (fp : List Addr), PE (X.blk s H scope (compEnvC scope cl C X.env) fp) elt te) (hs : ∀ x, foldedSetIterable iter X.env x = pure x := by intro _; rfl) :
    PE X (.ListComp elt [⟨tg, iter, ifs, 0⟩] scope pos) (tLc wi g tt te (own.map (·.2))) := by
  refine ⟨fun pins s σ H Q I h => ?_⟩
  obtain ⟨p, hp, hpn⟩ := hc
  exact lc_coreK hp hpn hN I hi ok hg ht he hs h
end
end Eh

namespace Eh
open PySem PySem.Spec PyProof.Rows L2

/-! ### defs of the text, called -/
theorem passN {X : Cx} : Passes (L2N.CX X.prog X.w) X E0 := fun _ _ _ _ _ _ _ h => by
  obtain ⟨_, _, _, _, _, _, _, _, _, _, _, _, z⟩ := h
  exact z.elim
structure Cl (P : Program) (w : World) (K : PySem.W.Frag) (mg : Str → Option Value) (base : Heap) (k : Nat) (x : Str) (sp : Sp) : Prop where
  ex : ∃ f fd ps, FnOk P w K mg base (L2N.CX P w) k f fd ps sp ∧ mg x = some (.ref f) ∧ PySem.W.keepIn K (.ref f) = true ∧ Binds K fd ps []
section
variable {X : Cx}
theorem dCall {k j : Nat} {x : Str} {sp : Sp} {E : XK} {e : Expr} {es : List Expr} {t : TA} {p pos : Pos} (c : Cl X.prog X.w X.K X.mg X.base k x sp) (hr : Room j X.A) (hk : k ≤ j) (hg : Gl X x) (hx : Passes (L2N.CX X.prog X.w) X E) (ha : PA X (e :: es) t)
    (hdb : (x == ("__debug__" : Str)) = false := by decide) (he : starEach (e :: es) X.env = (false, eval e X.env) :: starEach es X.env := by rfl) (hpl : (backTo pos (starEach es X.env)).any (·.1) = false := by rfl) :
    PE X (.Call (.Name x p) (e :: es) [] pos) (tCall sp [] E t) := by
  obtain ⟨f, fd, ps, F, m, kp, b⟩ := c.ex
  exact pe_call F (hr.mono hk) hg m kp b .nil hx ha hdb he hpl
theorem dCall0 {k j : Nat} {x : Str} {sp : Sp} {E : XK} {p pos : Pos} (c : Cl X.prog X.w X.K X.mg X.base k x sp) (hr : Room j X.A) (hk : k ≤ j) (hg : Gl X x) (hx : Passes (L2N.CX X.prog X.w) X E)
    (hdb : (x == ("__debug__" : Str)) = false := by decide) : PE X (.Call (.Name x p) [] [] pos) (tCall sp [] E tNil) := by
  obtain ⟨f, fd, ps, F, m, kp, b⟩ := c.ex
  exact pe_call0 F (hr.mono hk) hg m kp b .nil hx hdb
theorem dGlobI {x : Str} {i : Int} {pos : Pos} (hg : Gl X x) (h : ∃ t, X.mg x = some (.int i t)) (hd : (x == ("__debug__" : Str)) = false := by decide) : PE X (.Name x pos) (tC (.int i)) := by
  obtain ⟨t, e⟩ := h
  exact pe_glob hg e ⟨t, rfl⟩ hd
/-- in, not in: flat items, or data of any depth in a list -/
def rInA (K : PySem.W.Frag) : R2 := fun x y H Q => rIn K false x y H Q ∨ rInD K x y H Q
def rNiA (K : PySem.W.Frag) : R2 := fun x y H Q => rIn K true x y H Q ∨ rNotInD K x y H Q
theorem oIn (hu : X.A.units + 64 + 1 < cLine) : OpR X (compareOp .In) (rInA X.K) := op_in_seq.or (op_inD hu)
theorem oNi (hu : X.A.units + 64 + 1 < cLine) : OpR X (compareOp .NotIn) (rNiA X.K) := op_notIn_seq.or (op_notInD hu)
end
/-- what the text says of an own error -/
def ExcF (K : PySem.W.Frag) (C : Addr) : Prop := PySem.W.excIn K C [.type "ValueError", .type "Exception", .type "BaseException", .type "object"] "ValueError.__new__" = true ∧ PySem.W.keepIn K (.ref C) = true ∧
  PySem.W.subIn K (.ref C) (.type "BaseException") = some true ∧ PySem.W.typeIn K (.ref C) = some (.type "type")
theorem hu1 {j : Nat} {A : Around} (hr : Room j A) : A.units + 64 + 1 < cLine := by
  have := hr.un
  omega
/-- a def's promise from its body -/
theorem cl_of {P : Program} {w : World} {K : PySem.W.Frag} {mg : Str → Option Value} {base : Heap} {k : Nat} {x : Str} {sp : Sp} {params : Arguments} {body : List Stmt} {scope : Scope} {f : Addr} {N ps : List Str} {t : XK → TS}
    (F : ∃ fd, FunD K x x params body scope [] [] f fd) (g : mg x = some (.ref f)) (S : FnScope N ps scope)
    (hb : ∀ (kV doc pm : Value) (an : Option Addr) (cdv ct : Value) (us : List Value), us.length = ps.length → bindArgs (PySem.W.fnOf x x params body scope .none kV doc pm an cdv ct) ⟨us, []⟩ = pure (ps.zip us))
    (len : ∀ vs H Q E, sp vs H Q E → vs.length = ps.length)
    (der : ∀ (cdv : Value) (A : Around) (outer : List Env) (s : Shared) (H : Hp) (E : XK), Room k (A.deeper (envOfC x scope s.heap.objs.size f cdv)) → PSs (cxOf (L2N.CX P w) P w K mg base N x scope f cdv A outer s H E) body (t E))
    (pure_ : ∀ vs H Q E, sp vs H Q E → t E { nx := fun _ H' => Q .non H', rt := Q } (L2.start N vs) H) : Cl P w K mg base (k + 1) x sp := by
  obtain ⟨fd, F⟩ := F
  exact ⟨f, fd, ps, F.ok S len fun cdv A outer s H vs Q E hr h => ⟨t E, der cdv A outer s H E hr, pure_ vs H Q E h⟩, g, F.kp, F.bindsN hb⟩
/-- a def that takes calls of itself: below every depth nothing is promised -/
theorem cl_bot {P : Program} {w : World} {K : PySem.W.Frag} {mg : Str → Option Value} {base : Heap} {x : Str} {params : Arguments} {body : List Stmt} {scope : Scope} {f : Addr} {ps : List Str} {sp : Sp} (hs : ∀ vs H Q E, ¬ sp vs H Q E)
    (F : ∃ fd, FunD K x x params body scope [] [] f fd) (g : mg x = some (.ref f))
    (hb : ∀ (kV doc pm : Value) (an : Option Addr) (cdv ct : Value) (us : List Value), us.length = ps.length → bindArgs (PySem.W.fnOf x x params body scope .none kV doc pm an cdv ct) ⟨us, []⟩ = pure (ps.zip us)) : Cl P w K mg base 0 x sp := by
  obtain ⟨fd, F⟩ := F
  exact ⟨f, fd, ps, ⟨fun vs H Q E h => (hs _ _ _ _ h).elim, fun _ _ _ _ _ _ _ _ _ _ _ _ _ h => (hs _ _ _ _ h).elim⟩, g, F.kp, F.bindsN hb⟩
/-- the law's def -/
theorem fnok_of {P : Program} {w : World} {K : PySem.W.Frag} {mg : Str → Option Value} {base : Heap} {k : Nat} {x : Str} {sp : Sp} {params : Arguments} {body : List Stmt} {scope : Scope} {f : Addr} {fd : FuncData} {N ps : List Str} {t : XK → TS}
    (F : FunD K x x params body scope [] [] f fd) (S : FnScope N ps scope) (len : ∀ vs H Q E, sp vs H Q E → vs.length = ps.length)
    (der : ∀ (cdv : Value) (A : Around) (outer : List Env) (s : Shared) (H : Hp) (E : XK), Room k (A.deeper (envOfC x scope s.heap.objs.size f cdv)) → PSs (cxOf (L2N.CX P w) P w K mg base N x scope f cdv A outer s H E) body (t E))
    (pure_ : ∀ vs H Q E, sp vs H Q E → t E { nx := fun _ H' => Q .non H', rt := Q } (L2.start N vs) H) : FnOk P w K mg base (L2N.CX P w) (k + 1) f fd ps sp :=
  F.ok S len fun cdv A outer s H vs Q E hr h => ⟨t E, der cdv A outer s H E hr, pure_ vs H Q E h⟩
theorem spR_len {R : List PyData → Out → Prop} {n : Nat} (h : ∀ ds o, R ds o → ds.length = n) : ∀ vs H Q E, spR R vs H Q E → vs.length = n := fun vs H Q E ⟨F, ds, o, _, r, hR, _⟩ => r.length.trans (h ds o hR)
theorem spN_len {R : List PyData → List PyData → Prop} {n : Nat} (h : ∀ ds o, R ds o → ds.length = n) : ∀ vs H Q E, spN R vs H Q E → vs.length = n := fun vs H Q E ⟨F, ds, o, _, r, hR, _⟩ => r.length.trans (h ds o hR)
theorem cxn_false {P : Program} {w : World} {H : Hp} {s : Shared} {e : Value} {s' : Shared} (h : L2N.CX P w [] H s (fun _ _ _ => False) e s') : False := by
  obtain ⟨_, _, _, _, _, _, _, _, _, _, _, _, z⟩ := h
  exact z
/-- the law's walk, its errors' context at each world -/
theorem walkE {l : PySem.W.OpenLaw} {n k : Nat} {q : Program} {loose : List Str} {XP : (Str → Option Value) → Heap → Prop} {YP : World → Heap → Prop} {d : DefRec} {CX : World → CXT} {x : Str}
    (hn : l.most = some n) (hn2 : n ≤ sizeLine) (hdf : d.params.defaults = []) (hr : Room k callerA)
    (F : ∀ (w : World) (mg : Str → Option Value) (fa : Addr) (h : Heap), YP w h → h.Ns mainGlobals mg → mg d.name = some (.ref fa) →
      ∃ (K : PySem.W.Frag) (fd : FuncData) (sp : Sp), K.In h ∧ (∀ (s : Shared) (u : Value), BindsTo s fd ⟨[u], []⟩ [(x, u)]) ∧
        (∀ (H : Hp) (a : Addr) (ns : List Int), ns.length ≤ n → Only H → SqL K H a (ns.map V.int) → sp [.ref a] H (fun v _ => v = .bl true) fun _ _ _ => False) ∧
        ∀ base : Heap, K.In base → base.Ns mainGlobals mg → FnOk l.prog w K mg base (CX w) k fa fd [x] sp)
    (hCX : ∀ (w : World) (H : Hp) (s : Shared) (e : Value) (s' : Shared), CX w [] H s (fun _ _ _ => False) e s' → False) :
    PySem.W.WalkO q loose XP YP l.row.toRowW d [] (fun f vs => PySem.call f vs) := by
  refine Att.attach_call hn hdf fun w s₀ s₁ mg mb fa o pm cd doc a vs ns G Y ho hd hcd hmg hobj hints hlen hg => ?_
  obtain ⟨K, fd, sp, KX, hb, hsp, hF⟩ := F w mg fa _ Y G.T.g hmg
  exact law_call KX G.T.g G.T.b G.T.builtins G.T.nolimit hg hobj hints (Nat.le_trans hlen hn2) hr hF hb (fun H hO hS => hsp H a ns hlen hO hS) fun H e s' => hCX w H s₁ e s'

end Eh

namespace Eh
open PySem PySem.Spec PyProof.Rows L2

/-! ### what an expression gives whose draws may give anything within their bounds -/
def EvQ (C : Pc) (te : TE) (Γ : List Sl) (P : Hp → Hp → V → Hp → Hp → Prop) : Prop :=
  ∀ (B F H : Hp) (σ : L2.St), Wd C F H → Gm C B F H σ Γ → ∀ Q : VK, (∀ v F' H', Grow C.S F H F' H' → Wd C F' H' → P F H v F' H' → Q v H') → te σ H Q
def EvR (C : Pc) (te : TE) (Γ : List Sl) (P : PyData → Prop) : Prop := EvQ C te Γ fun _ _ v F' _ => ∃ d, P d ∧ Rp F' v d
def EvI (C : Pc) (te : TE) (Γ : List Sl) (P : Int → Prop) : Prop := EvQ C te Γ fun _ _ v _ _ => ∃ i, P i ∧ v = .int i
def EnR (C : Pc) (te : TE) (Γ : List Sl) (P : List PyData → Prop) : Prop :=
  EvQ C te Γ fun _ H v F' H' => ∃ p vs ds, v = .ref p ∧ H p = none ∧ F' p = none ∧ p ∉ C.S ∧ H' p = some (.lst vs) ∧ P ds ∧ RpAll F' vs ds
def RsR (C : Pc) (te : TE) (Γ : List Sl) (P : List PyData → Prop) : Prop :=
  EvQ C te Γ fun _ _ v F' H' => ∃ p vs ds, v = .ref p ∧ p ∉ C.S ∧ (H' p = some (.lst vs) ∨ H' p = some (.tup vs)) ∧ P ds ∧ RpAll F' vs ds
def EvTR (C : Pc) (tt : TT) (Γ : List Sl) (P : Bool → Prop) : Prop :=
  ∀ (B F H : Hp) (σ : L2.St), Wd C F H → Gm C B F H σ Γ → ∀ Q : Bool → Hp → Prop, (∀ b F' H', Grow C.S F H F' H' → Wd C F' H' → P b → Q b H') → tt σ H Q
def EvAR (C : Pc) (ta : TA) (Γ : List Sl) (P : List PyData → Prop) : Prop :=
  ∀ (B F H : Hp) (σ : L2.St), Wd C F H → Gm C B F H σ Γ → ∀ Q : List V → Hp → Prop, (∀ vs F' H' ds, Grow C.S F H F' H' → Wd C F' H' → P ds → RpAll F' vs ds → Q vs H') → ta σ H Q
theorem Grow.fresh' {S : List Addr} {F H F' H' : Hp} {p : Addr} (a : Grow S F H F' H') (h : H' p = none) : H p = none := by
  cases q : H p with
  | none => rfl
  | some u => exact absurd h (a.th p (by rw [q]; exact fun z => nomatch z))
section
variable {C : Pc} {te ta tb : TE} {tt tu : TT} {ts : TA} {Γ : List Sl} {d x y : PyData} {ds es : List PyData} {P P' : PyData → Prop} {K : PySem.W.Frag} {E : XK}
theorem EvP.q {P : Hp → Hp → V → Hp → Hp → Prop} (h : EvP te Γ P) : EvQ C te Γ P := fun B F H σ w g Q q => h C B F H σ w g Q fun v F' H' gr p => q v F' H' gr.weak (w.grow gr) p
theorem EvQ.imp {P P' : Hp → Hp → V → Hp → Hp → Prop} (h : EvQ C te Γ P) (i : ∀ F H v F' H', Wd C F H → Grow C.S F H F' H' → Wd C F' H' → P F H v F' H' → P' F H v F' H') : EvQ C te Γ P' :=
  fun B F H σ w g Q q => h B F H σ w g Q fun v F' H' gr w' p => q v F' H' gr w' (i F H v F' H' w gr w' p)
theorem EvD.r (h : EvD te Γ d) : EvR C te Γ (fun x => x = d) := (EvP.q h).imp fun _ _ v F' _ _ _ _ r => ⟨d, rfl, r⟩
theorem EvD.i {i : Int} (h : EvD te Γ (.int i)) : EvI C te Γ (fun k => k = i) := (EvP.q h).imp fun _ _ v F' _ _ _ _ r => ⟨i, rfl, r.int_inv⟩
theorem EvN.r (h : EvN te Γ ds) : EnR C te Γ (fun x => x = ds) := (EvP.q h).imp fun _ H v F' _ w _ _ ⟨p, vs, e, n, f, l, r⟩ => ⟨p, vs, ds, e, n, f, fun z => w.sH p z n, l, rfl, r⟩
theorem EvR.imp (h : EvR C te Γ P) (i : ∀ d, P d → P' d) : EvR C te Γ P' := EvQ.imp h fun _ _ _ _ _ _ _ _ ⟨d, p, r⟩ => ⟨d, i d p, r⟩
theorem EvI.imp {P P' : Int → Prop} (h : EvI C te Γ P) (i : ∀ k, P k → P' k) : EvI C te Γ P' := EvQ.imp h fun _ _ _ _ _ _ _ _ ⟨d, p, r⟩ => ⟨d, i d p, r⟩
theorem EnR.imp {P P' : List PyData → Prop} (h : EnR C te Γ P) (i : ∀ k, P k → P' k) : EnR C te Γ P' := EvQ.imp h fun _ _ _ _ _ _ _ _ ⟨p, vs, ds, a, b, c, s, d, e, f⟩ => ⟨p, vs, ds, a, b, c, s, d, i ds e, f⟩
theorem EvTR.imp {P P' : Bool → Prop} (h : EvTR C tt Γ P) (i : ∀ k, P k → P' k) : EvTR C tt Γ P' := fun B F H σ w g Q q => h B F H σ w g Q fun b F' H' g1 w1 p => q b F' H' g1 w1 (i b p)
theorem EvI.r {P : Int → Prop} (h : EvI C te Γ P) : EvR C te Γ (fun d => ∃ i, P i ∧ d = .int i) := EvQ.imp h fun _ _ v F' _ _ _ _ ⟨i, p, e⟩ => ⟨.int i, ⟨i, p, rfl⟩, e ▸ .int i⟩
theorem EvR.int {P : Int → Prop} (h : EvR C te Γ (fun d => ∃ i, P i ∧ d = .int i)) : EvI C te Γ P := EvQ.imp h fun _ _ v F' _ _ _ _ ⟨d, ⟨i, p, e⟩, r⟩ => ⟨i, p, by subst e; exact r.int_inv⟩
theorem EnR.fz {P : List PyData → Prop} (h : EnR C te Γ P) : EvR C te Γ (fun d => ∃ ds, P ds ∧ d = .list ds) := fun B F H σ w g Q q =>
  h B F H σ w g Q fun v F' H' gr w' ⟨p, vs, ds, e, n, f, s, l, pp, r⟩ => by
    subst e
    exact q _ (upd F' p (.lst vs)) H' (gr.freeze n l f) (w'.freeze s l f) ⟨.list ds, ⟨ds, pp, rfl⟩, .lst upd_same (r.mono (Sub.new f))⟩
theorem EnR.s {P : List PyData → Prop} (h : EnR C te Γ P) : RsR C te Γ P := EvQ.imp h fun _ _ _ _ _ _ _ _ ⟨p, vs, ds, a, b, c, s, d, e, f⟩ => ⟨p, vs, ds, a, s, .inl d, e, f⟩
theorem EvR.ls {P : List PyData → Prop} (h : EvR C te Γ (fun d => ∃ ds, P ds ∧ d = .list ds)) : RsR C te Γ P := EvQ.imp h fun _ _ _ _ _ w gr w' ⟨d, ⟨ds, p, e⟩, r⟩ => by
  subst e
  obtain ⟨a, xs, e, f, ra⟩ := Rp.lst_inv r
  exact ⟨a, xs, ds, e, (fun z => by have := w'.sF a z; rw [f] at this; cases this), .inl (w'.sub _ _ f), p, ra⟩
theorem EvR.tp {P : List PyData → Prop} (h : EvR C te Γ (fun d => ∃ ds, P ds ∧ d = .tuple ds)) : RsR C te Γ P := EvQ.imp h fun _ _ _ _ _ w gr w' ⟨d, ⟨ds, p, e⟩, r⟩ => by
  subst e
  obtain ⟨a, xs, e, f, ra⟩ := Rp.tup_inv r
  exact ⟨a, xs, ds, e, (fun z => by have := w'.sF a z; rw [f] at this; cases this), .inr (w'.sub _ _ f), p, ra⟩
theorem EvD.rsl (h : EvD te Γ (.list ds)) : RsR C te Γ (fun x => x = ds) := (h.r.imp fun d e => ⟨ds, rfl, e⟩ : EvR C te Γ (fun d => ∃ es, es = ds ∧ d = .list es)).ls
theorem EvD.rst (h : EvD te Γ (.tuple ds)) : RsR C te Γ (fun x => x = ds) := (h.r.imp fun d e => ⟨ds, rfl, e⟩ : EvR C te Γ (fun d => ∃ es, es = ds ∧ d = .tuple es)).tp
theorem rs_own {i : Nat} (h : Γ[i]? = some (.own ds)) : RsR C (tVar i) Γ (fun x => x = ds) := fun B F H σ w g Q q => by
  obtain ⟨p, vs, e, l, f, b, n, r⟩ := g.ok i _ h
  exact ⟨_, e, q _ F H (.refl w.sub) w ⟨p, vs, ds, rfl, n, .inl l, rfl, r⟩⟩
/-- operators -/
theorem er_op {r : R2} {Pa Pb : PyData → Prop} (ha : EvR C ta Γ Pa) (hb : EvR C tb Γ Pb) (hr : ∀ x y, Pa x → Pb y → ∃ d, P d ∧ RV r x y d) : EvR C (tOp r ta tb) Γ P := fun B F H σ w g Q q =>
  ha B F H σ w g _ fun v F1 H1 g1 w1 ⟨x, px, r1⟩ => hb B F1 H1 σ w1 (g.grow g1) _ fun u F2 H2 g2 w2 ⟨y, py, r2⟩ => by
    obtain ⟨d, pd, rv⟩ := hr x y px py
    exact rv F2 H2 v u g2.fh (r1.mono g2.ff) r2 Q fun z F3 H3 g3 r3 => q z F3 H3 ((g1.trans g2).trans g3.weak) (w2.grow g3) ⟨d, pd, r3⟩
theorem ei_op {r : R2} {Pa Pb P : Int → Prop} (ha : EvI C ta Γ Pa) (hb : EvI C tb Γ Pb) (hr : ∀ i j, Pa i → Pb j → ∃ k, P k ∧ RV r (.int i) (.int j) (.int k)) : EvI C (tOp r ta tb) Γ P :=
  EvR.int (er_op ha.r hb.r fun x y ⟨i, pi, ei⟩ ⟨j, pj, ej⟩ => by
    subst ei ej
    obtain ⟨k, pk, rv⟩ := hr i j pi pj
    exact ⟨.int k, ⟨k, pk, rfl⟩, rv⟩)
theorem rv_add {i j : Int} : RV (rAddA K) (.int i) (.int j) (.int (i + j)) := fun F H v u s r1 r2 Q q => .inl (rv_I0 (g := fun i j => .int (i + j)) (fun F => .int _) F H v u s r1 r2 Q q)
theorem rv_mul {i j : Int} (hc : CMul i j) : RV (rMulA K) (.int i) (.int j) (.int (i * j)) := fun F H v u s r1 r2 Q q => .inl (rv_I (g := fun i j => .int (i * j)) hc (fun F => .int _) F H v u s r1 r2 Q q)
theorem rv_sub {i j : Int} : RV rSubI (.int i) (.int j) (.int (i - j)) := rv_I0 fun F => .int _
theorem rv_mod {i j : Int} (hc : 0 < j) : RV rModI (.int i) (.int j) (.int (i % j)) := rv_I hc fun F => .int _
theorem rv_div {i j : Int} (hc : CDiv i j) : RV rDivI (.int i) (.int j) (.int (i / j)) := rv_I hc fun F => .int _
theorem rv_eqI {i j : Int} : RV (rEqA K) (.int i) (.int j) (.bool (decide (i = j))) := fun F H v u s r1 r2 Q q => by
  rw [r1.int_inv, r2.int_inv]
  refine .inl ⟨rfl, ?_⟩
  rw [show decide (V.int i = V.int j) = decide (i = j) by rw [dec_int, Bool.beq_eq_decide_eq]]
  exact q _ F H (.refl s) (.bl _)
theorem ei_add {Pa Pb P : Int → Prop} (ha : EvI C ta Γ Pa) (hb : EvI C tb Γ Pb) (h : ∀ i j, Pa i → Pb j → P (i + j)) : EvI C (tOp (rAddA K) ta tb) Γ P := ei_op ha hb fun i j a b => ⟨_, h i j a b, rv_add⟩
theorem ei_sub {Pa Pb P : Int → Prop} (ha : EvI C ta Γ Pa) (hb : EvI C tb Γ Pb) (h : ∀ i j, Pa i → Pb j → P (i - j)) : EvI C (tOp rSubI ta tb) Γ P := ei_op ha hb fun i j a b => ⟨_, h i j a b, rv_sub⟩
theorem ei_mul {Pa Pb P : Int → Prop} (ha : EvI C ta Γ Pa) (hb : EvI C tb Γ Pb) (h : ∀ i j, Pa i → Pb j → CMul i j ∧ P (i * j)) : EvI C (tOp (rMulA K) ta tb) Γ P := ei_op ha hb fun i j a b => ⟨_, (h i j a b).2, rv_mul (h i j a b).1⟩
theorem ei_mod {Pa Pb P : Int → Prop} (ha : EvI C ta Γ Pa) (hb : EvI C tb Γ Pb) (h : ∀ i j, Pa i → Pb j → 0 < j ∧ P (i % j)) : EvI C (tOp rModI ta tb) Γ P := ei_op ha hb fun i j a b => ⟨_, (h i j a b).2, rv_mod (h i j a b).1⟩
theorem ei_div {Pa Pb P : Int → Prop} (ha : EvI C ta Γ Pa) (hb : EvI C tb Γ Pb) (h : ∀ i j, Pa i → Pb j → CDiv i j ∧ P (i / j)) : EvI C (tOp rDivI ta tb) Γ P := ei_op ha hb fun i j a b => ⟨_, (h i j a b).2, rv_div (h i j a b).1⟩
theorem ei_int {P : Int → Prop} (h : EvI C ta Γ P) : EvI C (tCB rIntA (tCons ta tNil)) Γ P := fun B F H σ w g Q q =>
  h B F H σ w g _ fun v F1 H1 g1 w1 ⟨i, p, e⟩ => by
    subst e
    exact .inl ⟨i, rfl, q _ F1 H1 g1 w1 ⟨i, p, rfl⟩⟩
/-- subscripts -/
theorem er_ix {Ps : List PyData → Prop} {Pi : Int → Prop} (ha : RsR C ta Γ Ps) (hb : EvI C tb Γ Pi) (h : ∀ ds i, Ps ds → Pi i → ∃ d, atI ds i = some d ∧ P d) : EvR C (tOp (rIx K) ta tb) Γ P := fun B F H σ w g Q q =>
  ha B F H σ w g _ fun v F1 H1 g1 w1 ⟨p, vs, ds, e1, hs, h1, p1, r1⟩ => hb B F1 H1 σ w1 (g.grow g1) _ fun u F2 H2 g2 w2 ⟨i, pi, e2⟩ => by
    subst e1 e2
    obtain ⟨d, hd, pd⟩ := h ds i p1 pi
    obtain ⟨j, e1, e2⟩ : ∃ j, ixN ds.length i = some j ∧ ds[j]? = some d := by
      unfold atI at hd
      cases e : ixN ds.length i with
      | none => rw [e] at hd; cases hd
      | some j => rw [e] at hd; exact ⟨j, rfl, hd⟩
    have r2 := r1.mono g2.ff
    obtain ⟨v, k1, k2⟩ := r2.get e2
    have a : atI vs i = some v := by unfold atI; rw [r2.length, e1]; exact k1
    rcases h1 with h1 | h1
    · exact .inl ⟨p, vs, i, v, rfl, rfl, SqL.of (g2.hh _ _ hs h1), a, q v F2 H2 (g1.trans g2) w2 ⟨d, pd, k2⟩⟩
    · exact .inr (.inl ⟨p, vs, i, v, rfl, rfl, SqT.of (g2.hh _ _ hs h1), a, q v F2 H2 (g1.trans g2) w2 ⟨d, pd, k2⟩⟩)
/-- tests -/
theorem etr_d {b : Bool} (h : EvT tt Γ b) : EvTR C tt Γ (fun x => x = b) := fun B F H σ w g Q q => h C B F H σ w g Q fun F' H' gr => q b F' H' gr.weak (w.grow gr) rfl
theorem etr_val {P : Bool → Prop} (h : EvR C te Γ (fun d => ∃ b, P b ∧ d = .bool b)) : EvTR C (tB te) Γ P := fun B F H σ w g Q q => h B F H σ w g _ fun v F1 H1 g1 w1 ⟨d, ⟨b, p, e⟩, r⟩ => by
  subst e
  exact ⟨b, r.bl_inv, q b F1 H1 g1 w1 p⟩
theorem etr_test {P : Bool → Prop} (h : EvR C te Γ (fun d => ∃ b, P b ∧ d = .bool b)) : EvTR C (tTest te) Γ P := fun B F H σ w g Q q => h B F H σ w g _ fun v F1 H1 g1 w1 ⟨d, ⟨b, p, e⟩, r⟩ => by
  subst e
  exact ⟨b, r.bl_inv, q b F1 H1 g1 w1 p⟩
theorem etr_eq {Pa Pb : Int → Prop} {P : Bool → Prop} (ha : EvI C ta Γ Pa) (hb : EvI C tb Γ Pb) (h : ∀ i j, Pa i → Pb j → P (decide (i = j))) : EvTR C (tTest (tOp (rEqA K) ta tb)) Γ P :=
  etr_test (er_op ha.r hb.r fun x y ⟨i, pi, ei⟩ ⟨j, pj, ej⟩ => by
    subst ei ej
    exact ⟨.bool (decide (i = j)), ⟨_, h i j pi pj, rfl⟩, rv_eqI⟩)
theorem etr_gt {Pa Pb : Int → Prop} {P : Bool → Prop} (ha : EvI C ta Γ Pa) (hb : EvI C tb Γ Pb) (h : ∀ i j, Pa i → Pb j → P (decide (j < i))) : EvTR C (tTest (tOp rGtI ta tb)) Γ P :=
  etr_test (er_op ha.r hb.r fun x y ⟨i, pi, ei⟩ ⟨j, pj, ej⟩ => by
    subst ei ej
    exact ⟨.bool (decide (j < i)), ⟨_, h i j pi pj, rfl⟩, rv_I0 fun F => .bl _⟩)
theorem etr_lt {Pa Pb : Int → Prop} {P : Bool → Prop} (ha : EvI C ta Γ Pa) (hb : EvI C tb Γ Pb) (h : ∀ i j, Pa i → Pb j → P (decide (i < j))) : EvTR C (tTest (tOp rLtI ta tb)) Γ P :=
  etr_test (er_op ha.r hb.r fun x y ⟨i, pi, ei⟩ ⟨j, pj, ej⟩ => by
    subst ei ej
    exact ⟨.bool (decide (i < j)), ⟨_, h i j pi pj, rfl⟩, rv_I0 fun F => .bl _⟩)
/-- any outcome -/
theorem etr_any (h : EvTR C tt Γ fun _ => True) {P : Bool → Prop} (p : ∀ b, P b) : EvTR C tt Γ P := h.imp fun b _ => p b
theorem etr_and {P1 P2 P : Bool → Prop} (h1 : EvTR C tt Γ P1) (h2 : P1 true → EvTR C tu Γ P2) (hf : P1 false → P false) (ht : ∀ b, P1 true → P2 b → P b) : EvTR C (tAnd tt tu) Γ P := fun B F H σ w g Q q => h1 B F H σ w g _ fun b F1 H1 g1 w1 p => by
  cases b with
  | true =>
    show tu σ H1 Q
    exact h2 p B F1 H1 σ w1 (g.grow g1) Q fun b F2 H2 g2 w2 p2 => q b F2 H2 (g1.trans g2) w2 (ht b p p2)
  | false =>
    show Q false H1
    exact q _ F1 H1 g1 w1 (hf p)
theorem etr_or {P1 P2 P : Bool → Prop} (h1 : EvTR C tt Γ P1) (h2 : P1 false → EvTR C tu Γ P2) (hf : P1 true → P true) (ht : ∀ b, P1 false → P2 b → P b) : EvTR C (tOr tt tu) Γ P := fun B F H σ w g Q q => h1 B F H σ w g _ fun b F1 H1 g1 w1 p => by
  cases b with
  | false =>
    show tu σ H1 Q
    exact h2 p B F1 H1 σ w1 (g.grow g1) Q fun b F2 H2 g2 w2 p2 => q b F2 H2 (g1.trans g2) w2 (ht b p p2)
  | true =>
    show Q true H1
    exact q _ F1 H1 g1 w1 (hf p)
theorem etr_not {P P1 : Bool → Prop} (h : EvTR C tt Γ P1) (p : ∀ b, P1 b → P (!b)) : EvTR C (tNot tt) Γ P := fun B F H σ w g Q q => h B F H σ w g _ fun b F1 H1 g1 w1 pb => q (!b) F1 H1 g1 w1 (p b pb)
/-- arguments -/
theorem ear_d (h : EvA ts Γ ds) : EvAR C ts Γ (fun x => x = ds) := fun B F H σ w g Q q => h C B F H σ w g Q fun vs F1 H1 g1 r => q vs F1 H1 ds g1.weak (w.grow g1) rfl r
theorem ear_nil : EvAR C tNil Γ (fun x => x = []) := fun B F H σ w g Q q => q [] F H [] (.refl w.sub) w rfl .nil
theorem ear_cons {Ps Pr : List PyData → Prop} (ha : EvR C ta Γ P) (hb : EvAR C ts Γ Ps) (h : ∀ d ds, P d → Ps ds → Pr (d :: ds)) : EvAR C (tCons ta ts) Γ Pr := fun B F H σ w g Q q =>
  ha B F H σ w g _ fun v F1 H1 g1 w1 ⟨d, pd, r⟩ => hb B F1 H1 σ w1 (g.grow g1) _ fun vs F2 H2 ds g2 w2 ps rs => q (v :: vs) F2 H2 (d :: ds) (g1.trans g2) w2 (h d ds pd ps) (.cons (r.mono g2.ff) rs)
/-- tuples and lists laid -/
theorem er_tup {Ps : List PyData → Prop} (h : EvAR C ts Γ Ps) (hp : ∀ ds, Ps ds → ds.length ≤ 100000 ∧ P (.tuple ds)) : EvR C (tTup ts) Γ P := fun B F H σ w g Q q =>
  h B F H σ w g _ fun vs F1 H1 ds g1 w1 ps r => by
    obtain ⟨hz, pp⟩ := hp ds ps
    exact ⟨by rw [r.length]; exact size_ok hz, fun p hp' => q _ _ _ (g1.trans (.new g1.fh hp')) (w1.grow (.new g1.fh hp')) ⟨.tuple ds, pp, .tup upd_same (r.mono (Sub.new (g1.fh.none hp')))⟩⟩
theorem ern_lst {Ps Pr : List PyData → Prop} (h : EvAR C ts Γ Ps) (hp : ∀ ds, Ps ds → ds.length ≤ 100000 ∧ Pr ds) : EnR C (tLst ts) Γ Pr := fun B F H σ w g Q q =>
  h B F H σ w g _ fun vs F1 H1 ds g1 w1 ps r => by
    obtain ⟨hz, pp⟩ := hp ds ps
    exact ⟨by rw [r.length]; exact size_ok hz, fun p hp' => q _ F1 _ (g1.trans (.newM g1.fh hp')) (w1.grow (.newM g1.fh hp')) ⟨p, vs, ds, rfl, g1.fresh' hp', g1.fh.none hp', fun z => w1.sH p z hp', upd_same, pp, r⟩⟩
/-- tuple(..), list(..) -/
theorem er_tuple {Ps : List PyData → Prop} (h : RsR C ta Γ Ps) (hp : ∀ ds, Ps ds → P (.tuple ds)) (hl : EnR C ta Γ Ps) : EvR C (tThen ta (kTup K)) Γ P := fun B F H σ w g Q q =>
  hl B F H σ w g _ fun v F1 H1 g1 w1 ⟨p, vs, ds, e, n, f, s, l, pp, r⟩ => by
    subst e
    exact .inl ⟨p, vs, rfl, SqL.of l, fun t ht => q _ _ _ (g1.trans (.new g1.fh ht)) (w1.grow (.new g1.fh ht)) ⟨.tuple ds, hp ds pp, .tup upd_same (r.mono (Sub.new (g1.fh.none ht)))⟩⟩
end

/-! ### comprehensions whose items are drawn -/
def WkS (S : List Addr) (J : It) (F1 H1 : Hp) (ds : List PyData) : Prop := ∀ F2 H2, Grow S F1 H1 F2 H2 →
  (∀ i d, ds[i]? = some d → J.go i H2 ∧ ∀ x H', J.yld i H2 x H' → ∃ F', Grow [] F2 H2 F' H' ∧ Rp F' x d) ∧ J.stop ds.length H2
def IterS (C : Pc) (wi : TI) (Γ : List Sl) (ds : List PyData) : Prop :=
  ∀ (B F H : Hp) (σ : L2.St), Wd C F H → Gm C B F H σ Γ → ∀ R : It → Hp → Prop, (∀ J F' H', Grow C.S F H F' H' → Wd C F' H' → WkS C.S J F' H' ds → R J H') → wi σ H R
theorem IterF.s {C : Pc} {wi : TI} {Γ : List Sl} {ds : List PyData} (h : IterF wi Γ ds) : IterS C wi Γ ds := fun B F H σ w g R r => h C B F H σ w g R fun J F1 H1 g1 k => r J F1 H1 g1.weak (w.grow g1) fun F2 H2 g2 => k F2 H2 g2.ff g2.fh
theorem is_own {C : Pc} {Γ : List Sl} {ds : List PyData} {K : PySem.W.Frag} {i : Nat} (h : Γ[i]? = some (.own ds)) : IterS C (iSeq K (tVar i)) Γ ds := fun B F H σ w g R r => by
  obtain ⟨p, vs, e, l, f, b, n, ra⟩ := g.ok i _ h
  exact ⟨_, e, p, rfl, .inl ⟨⟨vs, SqL.of l⟩, r _ F H (.refl w.sub) w fun F2 H2 g2 => wk_list g2.fh (g2.hh _ _ n l) (ra.mono g2.ff)⟩⟩
inductive Gen {α : Type} (Pt : α → Bool → Prop) (Pf : α → PyData → Prop) : List α → List PyData → Prop
  | nil : Gen Pt Pf [] []
  | skip {x : α} {xs : List α} {ds : List PyData} : Gen Pt Pf xs ds → Pt x false → Gen Pt Pf (xs ++ [x]) ds
  | take {x : α} {xs : List α} {d : PyData} {ds : List PyData} : Gen Pt Pf xs ds → Pt x true → Pf x d → Gen Pt Pf (xs ++ [x]) (ds ++ [d])
theorem Gen.le {α : Type} {Pt : α → Bool → Prop} {Pf : α → PyData → Prop} {xs : List α} {ds : List PyData} (h : Gen Pt Pf xs ds) : ds.length ≤ xs.length := by
  induction h with
  | nil => exact Nat.le_refl _
  | skip _ _ ih => rw [List.length_append]; exact Nat.le_trans ih (Nat.le_add_right _ _)
  | take _ _ _ ih => rw [List.length_append, List.length_append]; exact Nat.add_le_add_right ih _
section
variable {C : Pc} {te ta tb : TE} {tt tu : TT} {ts : TA} {Γ : List Sl} {d x y : PyData} {ds es : List PyData} {P P' : PyData → Prop} {K : PySem.W.Frag} {E : XK}
theorem en_lcR {α : Type} {xs : List α} {enc : α → PyData} {Pt : α → Bool → Prop} {Pf : α → PyData → Prop} {Pr : List PyData → Prop} {wi : TI} {g : TG} {vs : List Nat} {Γx : α → List Sl}
    (hi : IterS C wi Γ (xs.map enc)) (hz : xs.length ≤ 100000) (hg : ∀ x ∈ xs, TgD g vs (wipeG Γ vs) (enc x) (Γx x))
    (ht : ∀ x ∈ xs, EvTR C tt (Γx x) (Pt x)) (he : ∀ x ∈ xs, Pt x true → EvR C te (Γx x) (Pf x)) (hp : ∀ ds, Gen Pt Pf xs ds → Pr ds) : EnR C (tLc wi g tt te vs) Γ Pr := fun B F H σ w gm Q q =>
  hi B F H σ w gm _ fun J F1 H1 g1 w1 wk D hD => by
    have e1 := gm.grow g1
    have nS : D ∉ C.S := fun z => w1.sH D z hD
    have mv : ∀ {F' H' : Hp} {acc : List V}, Grow C.S F1 H1 F' H' → F' D = none → H1 D = none → Grow C.S F1 H1 F' (upd H' D (.lst acc)) := fun {F' H' acc} gg f3 hD =>
      ⟨gg.ff, fun a o e => by
        have z : a ≠ D := fun z => by subst z; rw [f3] at e; cases e
        rw [upd_ne z]; exact gg.fh a o e, fun a o n e => by
        have z : a ≠ D := fun z => by subst z; rw [hD] at e; cases e
        rw [upd_ne z]; exact gg.hh a o n e, fun a e => upd_th (gg.th a e), gg.nw⟩
    refine ⟨fun i m H' => i + m = xs.length ∧ ∃ F' acc ds, Grow C.S F1 H1 F' H' ∧ Wd C F' H' ∧ F' D = none ∧ H' D = some (.lst acc) ∧ RpAll F' acc ds ∧ Gen Pt Pf (xs.take i) ds,
      ⟨xs.length, by omega, F1, [], [], .newM g1.fh hD, w1.grow (.newM g1.fh hD), g1.fh.none hD, upd_same, .nil, .nil⟩, fun i m H' ⟨hm, F', acc, ds, g2, w2, hF, hH, ra, gen⟩ => ?_⟩
    by_cases hlt : i < xs.length
    · refine .inr ?_
      obtain ⟨x, hx⟩ : ∃ x, xs[i]? = some x := ⟨_, List.getElem?_eq_getElem hlt⟩
      have hmem : x ∈ xs := List.mem_of_getElem? hx
      have htk : xs.take (i + 1) = xs.take i ++ [x] := by rw [List.take_add_one, hx]; rfl
      obtain ⟨go, yl⟩ := (wk F' H' g2).1 i (enc x) (by rw [List.getElem?_map, hx]; rfl)
      refine ⟨go, fun H'' => ∃ F'' acc ds, Grow C.S F1 H1 F'' H'' ∧ Wd C F'' H'' ∧ F'' D = none ∧ H'' D = some (.lst acc) ∧ RpAll F'' acc ds ∧ Gen Pt Pf (xs.take (i + 1)) ds, fun H'' h'' => ⟨m - 1, by omega, by omega, h''⟩, fun v H'' y => ?_⟩
      obtain ⟨F'', g3, rv⟩ := yl v H'' y
      have g23 := g2.trans g3.weak
      have dF : F'' D = none := g3.nw D (by rw [hH]; exact fun z => nomatch z) hF
      refine hg x hmem C B F'' H'' (L2.wipe σ vs) v g3.fh ((e1.grow g23).wipe vs) rv _ fun σ' e2 hw => ⟨hw.trans (wipe_wipe σ vs), ?_⟩
      refine ht x hmem B F'' H'' σ' (w2.grow g3) e2 _ fun b F3 H3 g4 w4 pb => ?_
      have d3 : H3 D = some (.lst acc) := g4.hh _ _ nS (g3.sub _ _ hH)
      have f3 : F3 D = none := g4.nw D (by rw [g3.sub _ _ hH]; exact fun z => nomatch z) dF
      cases b with
      | true =>
        rw [if_pos rfl]
        refine he x hmem pb B F3 H3 σ' w4 (e2.grow g4) _ fun u F4 H4 g5 w5 ⟨d, pd, ru⟩ => ?_
        have gg := (g23.trans g4).trans g5
        have f4 : F4 D = none := g5.nw D (by rw [d3]; exact fun z => nomatch z) f3
        refine ⟨acc, g5.hh _ _ nS d3, ?_, F4, acc ++ [u], ds ++ [d], mv gg f4 hD, w5.mut nS f4, f4, upd_same, ?_, ?_⟩
        · rw [ra.length]
          exact Nat.lt_of_le_of_lt (Nat.le_trans gen.le (by rw [List.length_take]; exact Nat.le_trans (Nat.min_le_right _ _) hz)) (by decide)
        · exact (((ra.mono g3.ff).mono g4.ff).mono g5.ff).append (.one ru)
        · rw [htk]; exact .take gen pb pd
      | false =>
        rw [if_neg Bool.false_ne_true]
        refine ⟨F3, acc, ds, g23.trans g4, w4, f3, d3, (ra.mono g3.ff).mono g4.ff, ?_⟩
        rw [htk]; exact .skip gen pb
    · refine .inl ?_
      have ei : i = xs.length := by omega
      subst ei
      refine ⟨by have z := (wk F' H' g2).2; rw [List.length_map] at z; exact z, ?_⟩
      rw [List.take_length] at gen
      exact q _ F' H' (g1.trans g2) w2 ⟨D, acc, ds, rfl, g1.fresh' hD, hF, nS, hH, hp ds gen, ra⟩
theorem etr_yes : EvTR C tYes Γ (fun b => b = true) := fun B F H σ w g Q q => q true F H (.refl w.sub) w rfl
/-- item by item -/
def All2 {α : Type} (Pf : α → PyData → Prop) (xs : List α) (ds : List PyData) : Prop := ds.length = xs.length ∧ ∀ (i : Nat) (x : α) (d : PyData), xs[i]? = some x → ds[i]? = some d → Pf x d
theorem Gen.all {α : Type} {Pf : α → PyData → Prop} {xs : List α} {ds : List PyData} (h : Gen (fun _ b => b = true) Pf xs ds) : All2 Pf xs ds := by
  induction h with
  | nil => exact ⟨rfl, fun i x d e => by simp at e⟩
  | skip _ z _ => cases z
  | @take x xs d ds _ _ p ih =>
    refine ⟨by rw [List.length_append, List.length_append, ih.1]; rfl, fun i y e h1 h2 => ?_⟩
    by_cases hi : i < xs.length
    · rw [List.getElem?_append_left hi] at h1
      rw [List.getElem?_append_left (by rw [ih.1]; exact hi)] at h2
      exact ih.2 i y e h1 h2
    · rw [List.getElem?_append_right (by omega)] at h1
      rw [List.getElem?_append_right (by rw [ih.1]; omega), ih.1] at h2
      cases q : i - xs.length with
      | zero => rw [q] at h1 h2; cases h1; cases h2; exact p
      | succ n => rw [q] at h1; simp at h1
/-- without a test -/
theorem en_lcMR {α : Type} {xs : List α} {enc : α → PyData} {Pf : α → PyData → Prop} {Pr : List PyData → Prop} {wi : TI} {g : TG} {vs : List Nat} {Γx : α → List Sl}
    (hi : IterS C wi Γ (xs.map enc)) (hz : xs.length ≤ 100000) (hg : ∀ x ∈ xs, TgD g vs (wipeG Γ vs) (enc x) (Γx x))
    (he : ∀ x ∈ xs, EvR C te (Γx x) (Pf x)) (hp : ∀ ds, All2 Pf xs ds → Pr ds) : EnR C (tLc wi g tYes te vs) Γ Pr :=
  en_lcR (Pt := fun _ b => b = true) hi hz hg (fun _ _ => etr_yes) (fun x hx _ => he x hx) fun ds h => hp ds h.all
end

/-! ### draws -/
/-- a def that is handed a pool of the family Fm, and what it may hand back -/
def spD (Fm : Pc → Prop) (Pre : List PyData → Prop) (Post : List PyData → PyData → Prop) : Sp := fun vs H Q _ => ∃ C F ws ds, Fm C ∧ vs = .ref C.p :: ws ∧ Wd C F H ∧ RpAll F ws ds ∧ Pre ds ∧
  ∀ v F' H' d, Grow C.S F H F' H' → Wd C F' H' → Post ds d → Rp F' v d → Q v H'
/-- .. a new list -/
def spDN (Fm : Pc → Prop) (Pre : List PyData → Prop) (Post : List PyData → List PyData → Prop) : Sp := fun vs H Q _ => ∃ C F ws ds, Fm C ∧ vs = .ref C.p :: ws ∧ Wd C F H ∧ RpAll F ws ds ∧ Pre ds ∧
  ∀ p us F' H' es, Grow C.S F H F' H' → Wd C F' H' → Post ds es → H p = none → F' p = none → p ∉ C.S → H' p = some (.lst us) → RpAll F' us es → Q (.ref p) H'
section
variable {C : Pc} {te ta tb : TE} {tt tu : TT} {ts : TA} {Γ : List Sl} {d x y : PyData} {ds es : List PyData} {P P' : PyData → Prop} {K : PySem.W.Frag} {E : XK} {Fm : Pc → Prop} {i : Nat}
theorem er_call {Pre : List PyData → Prop} {Post : List PyData → PyData → Prop} {Pa : List PyData → Prop} (hf : Fm C) (hp : Γ[i]? = some .pool) (ha : EvAR C ts Γ Pa) (h : ∀ ds, Pa ds → Pre ds ∧ ∀ d, Post ds d → P d) :
    EvR C (tCall (spD Fm Pre Post) [] E (tCons (tVar i) ts)) Γ P := fun B F H σ w g Q q =>
  ⟨_, g.ok i _ hp, ha B F H σ w g _ fun vs F1 H1 ds g1 w1 pa r => ⟨C, F1, vs, ds, hf, by rw [List.append_nil], w1, r, (h ds pa).1, fun v F2 H2 d g2 w2 pd rv => q v F2 H2 (g1.trans g2) w2 ⟨d, (h ds pa).2 d pd, rv⟩⟩⟩
theorem ern_call {Pre : List PyData → Prop} {Post : List PyData → List PyData → Prop} {Pa Pr : List PyData → Prop} (hf : Fm C) (hp : Γ[i]? = some .pool) (ha : EvAR C ts Γ Pa) (h : ∀ ds, Pa ds → Pre ds ∧ ∀ d, Post ds d → Pr d) :
    EnR C (tCall (spDN Fm Pre Post) [] E (tCons (tVar i) ts)) Γ Pr := fun B F H σ w g Q q =>
  ⟨_, g.ok i _ hp, ha B F H σ w g _ fun vs F1 H1 ds g1 w1 pa r => ⟨C, F1, vs, ds, hf, by rw [List.append_nil], w1, r, (h ds pa).1, fun p us F2 H2 es g2 w2 pd hn hF hs hl rv => q _ F2 H2 (g1.trans g2) w2 ⟨p, us, es, rfl, g1.fresh' hn, hF, hs, hl, (h ds pa).2 es pd, rv⟩⟩⟩
/-- a def without draws, its arguments drawn -/
theorem er_callA {R : List PyData → Out → Prop} {Pa : List PyData → Prop} (ha : EvAR C ts Γ Pa) (h : ∀ ds, Pa ds → ∃ d, R ds (.ok d) ∧ P d) : EvR C (tCall (spR R) [] E ts) Γ P := fun B F H σ w g Q q =>
  ha B F H σ w g _ fun vs F1 H1 ds g1 w1 pa r => by
    obtain ⟨d, hR, pd⟩ := h ds pa
    exact ⟨F1, ds, .ok d, w1.sub, by rw [List.append_nil]; exact r, hR, fun d' e v F2 H2 g2 r2 => by cases e; exact q v F2 H2 (g1.trans g2.weak) (w1.grow g2) ⟨d, pd, r2⟩, fun c f e => nomatch e⟩
end

theorem spD_len {Fm : Pc → Prop} {Pre : List PyData → Prop} {Post : List PyData → PyData → Prop} {n : Nat} (h : ∀ ds, Pre ds → ds.length + 1 = n) : ∀ vs H Q E, spD Fm Pre Post vs H Q E → vs.length = n := fun vs H Q E ⟨C, F, ws, ds, _, e, _, r, p, _⟩ => by
  rw [e, List.length_cons, r.length]; exact h ds p
theorem spDN_len {Fm : Pc → Prop} {Pre : List PyData → Prop} {Post : List PyData → List PyData → Prop} {n : Nat} (h : ∀ ds, Pre ds → ds.length + 1 = n) : ∀ vs H Q E, spDN Fm Pre Post vs H Q E → vs.length = n := fun vs H Q E ⟨C, F, ws, ds, _, e, _, r, p, _⟩ => by
  rw [e, List.length_cons, r.length]; exact h ds p
/-! ### a def that draws, from its promise -/
def startP (n : Nat) (ds : List PyData) : List Sl := .pool :: (ds.map .dat ++ List.replicate (n - 1 - ds.length) .no)
theorem startP_gm {C : Pc} {F H : Hp} {ws : List V} {ds : List PyData} {N : List Str} (r : RpAll F ws ds) : Gm C H F H (L2.start N (.ref C.p :: ws)) (startP N.length ds) := by
  have hl := r.length
  have e : N.length - (1 + ws.length) = N.length - 1 - ds.length := by rw [hl]; omega
  refine ⟨by unfold L2.start startP; simp [hl]; omega, fun i s es => ?_, fun i j ds' es p e1 _ _ _ => ?_⟩
  · unfold startP at es
    cases i with
    | zero => cases es; rfl
    | succ i =>
      rw [List.getElem?_cons_succ] at es
      by_cases hi : i < ds.length
      · rw [List.getElem?_append_left (by simpa using hi), List.getElem?_map, List.getElem?_eq_getElem hi] at es
        cases es
        obtain ⟨v, h1, h2⟩ := r.get (List.getElem?_eq_getElem hi)
        refine ⟨v, ?_, h2⟩
        unfold L2.start
        rw [List.map_cons, List.cons_append, List.getElem?_cons_succ, List.getElem?_append_left (by simpa [hl] using hi), List.getElem?_map, h1]
        rfl
      · rw [List.getElem?_append_right (by simpa using hi), List.getElem?_replicate] at es
        split at es
        · cases es; trivial
        · cases es
  · exfalso
    unfold startP at e1
    cases i with
    | zero => cases e1
    | succ i =>
      rw [List.getElem?_cons_succ] at e1
      by_cases hi : i < ds.length
      · rw [List.getElem?_append_left (by simpa using hi), List.getElem?_map, List.getElem?_eq_getElem hi] at e1
        cases e1
      · rw [List.getElem?_append_right (by simpa using hi), List.getElem?_replicate] at e1
        split at e1 <;> cases e1
theorem spD_body {Fm : Pc → Prop} {Pre : List PyData → Prop} {Post : List PyData → PyData → Prop} {N : List Str} {t : XK → TS} {vs : List V} {H : Hp} {Q : VK} {E : XK} (h : spD Fm Pre Post vs H Q E)
    (hb : ∀ C ds, Fm C → Pre ds → ∀ (B F0 : Hp) (D : Ends), RetOk C B F0 D (Post ds) → At C B F0 (startP N.length ds) (t E D)) : t E { nx := fun _ H' => Q .non H', rt := Q } (L2.start N vs) H := by
  obtain ⟨C, F, ws, ds, hf, rfl, w, r, hp, hq⟩ := h
  exact hb C ds hf hp H F { nx := fun _ H' => Q .non H', rt := Q } (fun F1 H1 v d w1 g pd rv => hq v F1 H1 d g w1 pd rv) F H _ w (.refl w.sub) (startP_gm r)
theorem spDN_body {Fm : Pc → Prop} {Pre : List PyData → Prop} {Post : List PyData → List PyData → Prop} {N : List Str} {t : XK → TS} {vs : List V} {H : Hp} {Q : VK} {E : XK} (h : spDN Fm Pre Post vs H Q E)
    (hb : ∀ C ds, Fm C → Pre ds → ∀ (B F0 : Hp) (D : Ends), RetN C B F0 D (Post ds) → At C B F0 (startP N.length ds) (t E D)) : t E { nx := fun _ H' => Q .non H', rt := Q } (L2.start N vs) H := by
  obtain ⟨C, F, ws, ds, hf, rfl, w, r, hp, hq⟩ := h
  exact hb C ds hf hp H F { nx := fun _ H' => Q .non H', rt := Q } (fun F1 H1 p us es w1 g hb hF hs hl ra pd => hq p us F1 H1 es g w1 pd hb hF hs hl ra) F H _ w (.refl w.sub) (startP_gm r)

/-! ### statements -/
section
variable {C : Pc} {B F0 : Hp} {Γ : List Sl} {te ta tb : TE} {tt : TT} {t u : TS} {D : Ends} {i : Nat} {d : PyData} {ds es : List PyData} {P : PyData → Prop} {R : PyData → Prop} {RN : List PyData → Prop} {K : PySem.W.Frag}
theorem at_asgR (h : EvR C te Γ P) (k : ∀ d, P d → At C B F0 (Γ.set i (.dat d)) D.nx) : At C B F0 Γ (tAsg te (gName i) D) := fun F H σ w g e =>
  h B F H σ w e _ fun v F1 H1 g1 w1 ⟨d, pd, r⟩ => k d pd F1 H1 _ w1 (g.trans g1) ((e.grow g1).dat r)
theorem at_asgI {P : Int → Prop} (h : EvI C te Γ P) (k : ∀ j, P j → At C B F0 (Γ.set i (.dat (.int j))) D.nx) : At C B F0 Γ (tAsg te (gName i) D) := at_asgR h.r fun d ⟨j, pj, e⟩ => e ▸ k j pj
theorem at_asgNR {Pr : List PyData → Prop} (h : EnR C te Γ Pr) (k : ∀ ds, Pr ds → At C B F0 (Γ.set i (.own ds)) D.nx) : At C B F0 Γ (tAsg te (gName i) D) := fun F H σ w g e =>
  h B F H σ w e _ fun v F1 H1 g1 w1 ⟨p, vs, ds, ev, hn, hf, hs, hl, pp, r⟩ => by
    subst ev
    refine k ds pp F1 H1 _ w1 (g.trans g1) ((e.grow g1).set ⟨p, vs, rfl, hl, hf, g.fresh' hn, hs, r⟩ fun ds' _ j es q eq h1 h2 => ?_)
    cases eq
    obtain ⟨q, us, e1, h3, _⟩ := e.ok j _ h1
    rw [h2] at e1; cases e1
    rw [hn] at h3; cases h3
theorem at_ifR {Pb : Bool → Prop} (h : EvTR C tt Γ Pb) (h1 : Pb true → At C B F0 Γ (t D)) (h2 : Pb false → At C B F0 Γ (u D)) : At C B F0 Γ (tIfS tt t u D) := fun F H σ w g e =>
  h B F H σ w e _ fun b F1 H1 g1 w1 pb => by
    cases b with
    | true =>
      show t D σ H1
      exact h1 pb F1 H1 σ w1 (g.trans g1) (e.grow g1)
    | false =>
      show u D σ H1
      exact h2 pb F1 H1 σ w1 (g.trans g1) (e.grow g1)
theorem at_retR (hr : RetOk C B F0 D R) (h : EvR C te Γ P) (hd : ∀ d, P d → R d) : At C B F0 Γ (tRet te D) := fun F H σ w g e =>
  h B F H σ w e _ fun v F1 H1 g1 w1 ⟨d, pd, r⟩ => hr F1 H1 v d w1 (g.trans g1) (hd d pd) r
theorem at_retNR {Pr : List PyData → Prop} (hr : RetN C B F0 D RN) (h : EnR C te Γ Pr) (hd : ∀ ds, Pr ds → RN ds) : At C B F0 Γ (tRet te D) := fun F H σ w g e =>
  h B F H σ w e _ fun v F1 H1 g1 w1 ⟨p, vs, ds, ev, hn, hf, hs, hl, pp, r⟩ => by
    subst ev
    exact hr F1 H1 p vs ds w1 (g.trans g1) (g.fresh' hn) hf hs hl r (hd ds pp)
theorem at_appendR (hx : Γ[i]? = some (.own ds)) (hz : ds.length < 100000) (h : EvR C te Γ P) (k : ∀ d, P d → At C B F0 (Γ.set i (.own (ds ++ [d]))) D.nx) :
    At C B F0 Γ (tDrop (tBM K "list" rAppend (tVar i) (tCons te tNil)) D) := fun F H σ w g e => by
  obtain ⟨p, vs, e1, hl, hf, hb, hs, r⟩ := e.ok i _ hx
  refine ⟨_, e1, .inl ⟨rfl, vs, SqL.of hl⟩, h B F H σ w e _ fun v F1 H1 g1 w1 ⟨d, pd, rv⟩ => ?_⟩
  have hl1 := g1.hh _ _ hs hl
  have hf1 := g1.nw p (by rw [hl]; exact fun z => nomatch z) hf
  have g2 := g.trans g1
  have e2 : Gm C B F1 H1 σ Γ := e.grow g1
  exact ⟨p, vs, v, rfl, rfl, hl1, by rw [r.length]; exact size_lt hz, k d pd F1 _ σ (w1.mut hs hf1) (g2.mut hb hf1) (e2.mut hx e1 ((r.mono g1.ff).append (.one rv)))⟩
/-- own1.append(own2.pop(e)) -/
theorem at_popTo {j : Nat} {Pi : Int → Prop} (hx : Γ[i]? = some (.own ds)) (hy : Γ[j]? = some (.own es)) (hij : i ≠ j) (hz : ds.length < 100000) (h : EvI C te Γ Pi)
    (hk : ∀ n, Pi n → ∃ m : Nat, n = m ∧ m < es.length ∧ es.length < 100000) (k : ∀ m d, Pi (m : Nat) → es[m]? = some d → At C B F0 ((Γ.set j (.own (es.eraseIdx m))).set i (.own (ds ++ [d]))) D.nx) :
    At C B F0 Γ (tDrop (tBM K "list" rAppend (tVar i) (tCons (tBM K "list" rPopAt (tVar j) (tCons te tNil)) tNil)) D) := fun F H σ w g e => by
  obtain ⟨p, vs, e1, hl, hf, hb, hs, r⟩ := e.ok i _ hx
  obtain ⟨q, us, f1, kl, kf, kb, ks, rq⟩ := e.ok j _ hy
  refine ⟨_, e1, .inl ⟨rfl, vs, SqL.of hl⟩, _, f1, .inl ⟨rfl, us, SqL.of kl⟩, h B F H σ w e _ fun v F1 H1 g1 w1 ⟨n, pn, ev⟩ => ?_⟩
  subst ev
  obtain ⟨m, rfl, hm, hm2⟩ := hk n pn
  have npq : p ≠ q := fun z => hij (e.inj i j ds es p hx hy e1 (z ▸ f1))
  have e2 : Gm C B F1 H1 σ Γ := e.grow g1
  have kl1 := g1.hh _ _ ks kl
  have hl1 := g1.hh _ _ hs hl
  have rq1 := rq.mono g1.ff
  have hf1 := g1.nw p (by rw [hl]; exact fun z => nomatch z) hf
  have kf1 := g1.nw q (by rw [kl]; exact fun z => nomatch z) kf
  obtain ⟨d, hd⟩ : ∃ d, es[m]? = some d := ⟨_, List.getElem?_eq_getElem hm⟩
  obtain ⟨v, hv, rv⟩ := rq1.get hd
  refine ⟨q, us, (m : Nat), m, v, rfl, rfl, kl1, by omega, by omega, ?_, hv, ?_⟩
  · rw [rq.length]; exact seqIndex_of (by omega) (by omega)
  · refine ⟨p, vs, v, rfl, rfl, by rw [upd_ne npq]; exact hl1, by rw [r.length]; exact size_lt hz, ?_⟩
    have e3 := e2.mut hy f1 (rq1.eraseIdx m)
    have hx' : (Γ.set j (.own (es.eraseIdx m)))[i]? = some (.own ds) := by rw [List.getElem?_set_ne (Ne.symm hij)]; exact hx
    have g3 := (g.trans g1).mut (o := .lst (us.eraseIdx m)) kb kf1
    exact k m d pn hd F1 _ σ ((w1.mut ks kf1).mut hs hf1) (g3.mut hb hf1) (e3.mut hx' e1 ((r.mono g1.ff).append (.one rv)))
/-- own[e] = e' -/
theorem at_setR {Pi : Int → Prop} (hx : Γ[i]? = some (.own ds)) (h : EvR C te Γ P) (hi : EvI C tb Γ Pi) (hk : ∀ n, Pi n → ∃ k, ixN ds.length n = some k) (kk : ∀ d n k, P d → Pi n → ixN ds.length n = some k → At C B F0 (Γ.set i (.own (ds.set k d))) D.nx) :
    At C B F0 Γ (tAsg te (gSub (tVar i) tb rSetL) D) := fun F H σ w g e => by
  obtain ⟨p, vs, e1, hl, hf, hb, hs, r⟩ := e.ok i _ hx
  refine h B F H σ w e _ fun v F1 H1 g1 w1 ⟨d, pd, rv⟩ => ⟨_, e1, hi B F1 H1 σ w1 (e.grow g1) _ fun u F2 H2 g2 w2 ⟨n, pn, eu⟩ => ?_⟩
  subst eu
  obtain ⟨k, hk⟩ := hk n pn
  have g12 := g1.trans g2
  have hl1 := g12.hh _ _ hs hl
  have hf1 := g12.nw p (by rw [hl]; exact fun z => nomatch z) hf
  have gg := g.trans g12
  have e2 : Gm C B F2 H2 σ Γ := e.grow g12
  exact ⟨p, vs, n, k, rfl, rfl, hl1, by rw [r.length]; exact hk, kk d n k pd pn hk F2 _ σ (w2.mut hs hf1) (gg.mut hb hf1) (e2.mut hx e1 ((r.mono g12.ff).set k (rv.mono g2.ff)))⟩
/-- for, what is true at each turn -/
theorem at_forR {α : Type} {xs : List α} {enc : α → PyData} {wi : TI} {g : TG} {vs : List Nat} (Is : Nat → List Sl → Prop) (h0 : Is 0 Γ) (hi : IterF wi Γ (xs.map enc)) (Γx : α → List Sl → List Sl)
    (hg : ∀ i x Γ, xs[i]? = some x → Is i Γ → TgD g vs Γ (enc x) (Γx x Γ))
    (hb : ∀ i x Γ, xs[i]? = some x → Is i Γ → ∀ F1 H1, Grow C.S F0 B F1 H1 → ∀ D' : Ends, D'.rt = D.rt → (∀ Γ', Is (i + 1) Γ' → At C B F1 Γ' D'.nx) → (∀ Γ', Is (i + 1) Γ' → At C B F1 Γ' D'.ct) → D'.bk = D.nx → At C B F1 (Γx x Γ) (t D'))
    (hd : ∀ Γ, Is xs.length Γ → At C B F0 Γ D.nx) : At C B F0 Γ (tFor wi g t D) := fun F H σ w gr e =>
  hi C B F H σ w e _ fun J F1 H1 g1 wk => by
    have gb : Grow C.S F0 B F1 H1 := gr.trans g1.weak
    refine ⟨fun i m σ' H' => i + m = xs.length ∧ ∃ F' Γ', Is i Γ' ∧ Wd C F' H' ∧ Grow C.S F1 B F' H' ∧ Gm C B F' H' σ' Γ', ⟨xs.length, by omega, F1, Γ, h0, w.grow g1, gb.start, e.grow g1.weak⟩, fun i m σ' H' ⟨hm, F', Γ', is, w2, g2, e2⟩ => ?_⟩
    by_cases hlt : i < xs.length
    · refine .inr ?_
      obtain ⟨x, hx⟩ : ∃ x, xs[i]? = some x := ⟨_, List.getElem?_eq_getElem hlt⟩
      obtain ⟨go, yl⟩ := (wk F' H' g2.ff g2.fh).1 i (enc x) (by rw [List.getElem?_map, hx]; rfl)
      let N : L2.St → Hp → Prop := fun σ'' H'' => ∃ F'' Γ'', Is (i + 1) Γ'' ∧ Wd C F'' H'' ∧ Grow C.S F1 B F'' H'' ∧ Gm C B F'' H'' σ'' Γ''
      refine ⟨go, N, fun σ'' H'' h'' => ⟨m - 1, by omega, by omega, h''⟩, fun v H'' y => ?_⟩
      obtain ⟨F'', g3, rv⟩ := yl v H'' y
      refine hg i x Γ' hx is C B F'' H'' σ' v g3.fh (e2.grow g3.weak) rv _ fun σ3 e3 _ => ?_
      exact hb i x Γ' hx is F1 H1 gb { D with nx := N, ct := N, bk := D.nx } rfl (fun Γ2 is2 F H σ w g e => ⟨F, Γ2, is2, w, g, e⟩) (fun Γ2 is2 F H σ w g e => ⟨F, Γ2, is2, w, g, e⟩) rfl F'' H'' σ3 (w2.grow g3) (g2.trans g3.weak) e3
    · refine .inl ?_
      have ei : i = xs.length := by omega
      subst ei
      exact ⟨by have z := (wk F' H' g2.ff g2.fh).2; rw [List.length_map] at z; exact z, hd Γ' is F' H' σ' w2 (gb.chain g2) e2⟩
end
end Eh

namespace Eh
open PySem PySem.Spec PyProof.Rows L2

/-! ### isinstance -/
def tyS : PyData → String | .none => "NoneType" | .bool _ => "bool" | .int _ => "int" | .str _ => "str" | .list _ => "list" | .tuple _ => "tuple" | .dict _ => "dict"
def isIntD : PyData → Bool | .int _ => true | _ => false
def isBlD : PyData → Bool | .bool _ => true | _ => false
def isStrD : PyData → Bool | .str _ => true | _ => false
def isLstD : PyData → Bool | .list _ => true | _ => false
def isTupD : PyData → Bool | .tuple _ => true | _ => false
theorem Rp.ty {F H : Hp} {K : PySem.W.Frag} {v : V} {d : PyData} (r : Rp F v d) (s : Sub F H) : TyX K H v (.type (tyS d)) := by
  cases r with
  | non => exact .base .non
  | bl b => exact .base (.bl b)
  | int i => exact .base (.int i)
  | str x => exact .base (.str x)
  | lst h _ => exact .base (.lst (s _ _ h))
  | tup h _ => exact .base (.tup (s _ _ h))
section
variable {te ta tb : TE} {Γ : List Sl} {d x y : PyData} {ds es : List PyData} {K : PySem.W.Frag} {ts : TA}
theorem ev_isi {T : String} {b : Bool} (h : EvD ta Γ d) (hk : kitB (tyS d) T = some b) : EvD (tCB (rIsi K) (tCons ta (tCons (tC (.ty T)) tNil))) Γ (.bool b) := fun C B F H σ w g Q q =>
  h C B F H σ w g _ fun v F1 H1 g1 r1 => ⟨v, .ty T, .type (tyS d), .type T, b, rfl, .ty T, Rp.ty r1 g1.fh, kit_ty hk, q _ F1 H1 g1 (.bl _)⟩
theorem ev_isiT2 {T U : String} {b c : Bool} (h : EvD ta Γ d) (hk : kitB (tyS d) T = some b) (hl : kitB (tyS d) U = some c) :
    EvD (tCB (rIsiT K) (tCons ta (tCons (tTup (tCons (tC (.ty T)) (tCons (tC (.ty U)) tNil))) tNil))) Γ (.bool (b || c)) := fun C B F H σ w g Q q =>
  h C B F H σ w g _ fun v F1 H1 g1 r1 => ⟨by show 2 ≤ sizeLine; decide, fun p hp =>
    ⟨v, p, [.ty T, .ty U], .type (tyS d), [.type T, .type U], b || c, rfl, upd_same, .cons (.ty T) (.cons (.ty U) .nil), Rp.ty r1 (g1.fh.trans (Sub.new hp)), by
      refine kitAny_cons (kit_ty hk) (fun e => ?_) (fun e => by rw [e]; rfl)
      refine kitAny_cons (kit_ty hl) (fun e2 => ?_) (fun e2 => by rw [e2, Bool.or_true])
      rw [e, e2]; rfl, q _ F1 _ (g1.trans (.newM g1.fh hp)) (.bl _)⟩⟩
end
theorem ty_none (d : PyData) : kitB (tyS d) "int" = some (isIntD d || isBlD d) := by cases d <;> kernel_rfl
theorem ty_bool (d : PyData) : kitB (tyS d) "bool" = some (isBlD d) := by cases d <;> kernel_rfl
theorem ty_str (d : PyData) : kitB (tyS d) "str" = some (isStrD d) := by cases d <;> kernel_rfl
theorem ty_list (d : PyData) : kitB (tyS d) "list" = some (isLstD d) := by cases d <;> kernel_rfl
theorem ty_tuple (d : PyData) : kitB (tyS d) "tuple" = some (isTupD d) := by cases d <;> kernel_rfl
section
variable {te ta tb : TE} {Γ : List Sl} {d x y : PyData} {ds es : List PyData} {K : PySem.W.Frag} {ts : TA} {w : World}
theorem ev_isInt (h : EvD ta Γ d) : EvD (tCB (rIsi K) (tCons ta (tCons (tC (.ty "int")) tNil))) Γ (.bool (isIntD d || isBlD d)) := ev_isi h (ty_none d)
theorem ev_isBl (h : EvD ta Γ d) : EvD (tCB (rIsi K) (tCons ta (tCons (tC (.ty "bool")) tNil))) Γ (.bool (isBlD d)) := ev_isi h (ty_bool d)
theorem ev_isStr (h : EvD ta Γ d) : EvD (tCB (rIsi K) (tCons ta (tCons (tC (.ty "str")) tNil))) Γ (.bool (isStrD d)) := ev_isi h (ty_str d)
theorem ev_isLst (h : EvD ta Γ d) : EvD (tCB (rIsi K) (tCons ta (tCons (tC (.ty "list")) tNil))) Γ (.bool (isLstD d)) := ev_isi h (ty_list d)
theorem ev_isTup (h : EvD ta Γ d) : EvD (tCB (rIsi K) (tCons ta (tCons (tC (.ty "tuple")) tNil))) Γ (.bool (isTupD d)) := ev_isi h (ty_tuple d)
theorem ev_isLT (h : EvD ta Γ d) : EvD (tCB (rIsiT K) (tCons ta (tCons (tTup (tCons (tC (.ty "list")) (tCons (tC (.ty "tuple")) tNil))) tNil))) Γ (.bool (isLstD d || isTupD d)) := ev_isiT2 h (ty_list d) (ty_tuple d)

/-! ### list(range(..)), tuple(range(..)) -/
theorem rpRg (F : Hp) (a b : Int) : RpAll F (rgV a b) ((List.range (b - a).toNat).map fun i : Nat => .int (a + i)) := by
  unfold rgV
  generalize List.range (b - a).toNat = l
  induction l with
  | nil => exact .nil
  | cons n l ih => exact .cons (.int _) ih
theorem rp_range (F : Hp) (n : Nat) : RpAll F (rgV 0 n) ((List.range n).map fun i : Nat => .int i) := by
  have h := rpRg F 0 (n : Int)
  rw [show ((n : Int) - 0).toNat = n by omega] at h
  have e : ((List.range n).map fun i : Nat => PyData.int (0 + (i : Int))) = (List.range n).map fun i : Nat => PyData.int i := List.map_congr_left fun i _ => by rw [Int.zero_add]
  rwa [e] at h
theorem en_lstRg {n : Nat} (h : EvD ta Γ (.int (n : Int))) (hn : n ≤ 100000) : EvN (tLstRg (tRg1 ta)) Γ ((List.range n).map fun i : Nat => .int i) := fun C B F H σ w g Q q =>
  h C B F H σ w g _ fun v F1 H1 g1 r1 => ⟨n, r1.int_inv, RgOk.of_le (by omega) (by omega) (by omega) (by omega), fun p hp => q _ F1 _ (g1.trans (.newM g1.fh hp)) ⟨p, _, rfl, g1.fresh hp, g1.fh.none hp, upd_same, rp_range F1 n⟩⟩
theorem ev_tupRg {n : Nat} (h : EvD ta Γ (.int (n : Int))) (hn : n ≤ 100000) : EvD (tTupRg (tRg1 ta)) Γ (.tuple ((List.range n).map fun i : Nat => .int i)) := fun C B F H σ w g Q q =>
  h C B F H σ w g _ fun v F1 H1 g1 r1 => ⟨n, r1.int_inv, RgOk.of_le (by omega) (by omega) (by omega) (by omega), fun p hp => q _ _ _ (g1.trans (.new g1.fh hp)) (.tup upd_same (rp_range _ n))⟩
theorem en_lstRg2 {i j : Int} (ha : EvD ta Γ (.int i)) (hb : EvD tb Γ (.int j)) (h0 : 0 ≤ i) (h1 : j ≤ 100000) (h2 : i ≤ 100000) (h3 : 0 ≤ j) : EvN (tLstRg (tRg2 ta tb)) Γ ((List.range (j - i).toNat).map fun k : Nat => .int (i + k)) := fun C B F H σ w g Q q =>
  ha C B F H σ w g _ fun v F1 H1 g1 r1 => hb C B F1 H1 σ (w.grow g1) (g.grow g1.weak) _ fun u F2 H2 g2 r2 =>
    ⟨i, j, r1.int_inv, r2.int_inv, RgOk.of_le (by omega) (by omega) (by omega) (by omega), fun p hp => q _ F2 _ ((g1.trans g2).trans (.newM g2.fh hp)) ⟨p, _, rfl, (g1.trans g2).fresh hp, g2.fh.none hp, upd_same, rpRg F2 i j⟩⟩
theorem ev_tupRg2 {i j : Int} (ha : EvD ta Γ (.int i)) (hb : EvD tb Γ (.int j)) (h0 : 0 ≤ i) (h1 : j ≤ 100000) (h2 : i ≤ 100000) (h3 : 0 ≤ j) : EvD (tTupRg (tRg2 ta tb)) Γ (.tuple ((List.range (j - i).toNat).map fun k : Nat => .int (i + k))) := fun C B F H σ w g Q q =>
  ha C B F H σ w g _ fun v F1 H1 g1 r1 => hb C B F1 H1 σ (w.grow g1) (g.grow g1.weak) _ fun u F2 H2 g2 r2 =>
    ⟨i, j, r1.int_inv, r2.int_inv, RgOk.of_le (by omega) (by omega) (by omega) (by omega), fun p hp => q _ _ _ ((g1.trans g2).trans (.new g2.fh hp)) (.tup upd_same (rpRg _ i j))⟩

/-! ### in -/
theorem ev_inA (ha : EvD ta Γ x) (hb : RdS tb Γ ds) (h : flatD x = true) (k : ds.all flatD = true) : EvD (tOp (rInA K) ta tb) Γ (.bool (ds.any fun z => PyData.eqv z x)) :=
  ev_opDS ha hb fun F0 H0 F H v p us g0 rv hp r Q q => by
    refine .inl ⟨p, us, rfl, hp.imp SqL.of SqT.of, rv.flat h, r.flatD k, ?_⟩
    rw [inV_eqv rv r h k]
    exact q _ F H (.refl g0.fh) (.bl _)
theorem ev_niA (ha : EvD ta Γ x) (hb : RdS tb Γ ds) (h : flatD x = true) (k : ds.all flatD = true) : EvD (tOp (rNiA K) ta tb) Γ (.bool (!(ds.any fun z => PyData.eqv z x))) :=
  ev_opDS ha hb fun F0 H0 F H v p us g0 rv hp r Q q => by
    refine .inl ⟨p, us, rfl, hp.imp SqL.of SqT.of, rv.flat h, r.flatD k, ?_⟩
    rw [inV_eqv rv r h k]
    exact q _ F H (.refl g0.fh) (.bl _)
theorem ev_inAI {ns : List Int} {k : Int} (ha : EvD ta Γ (.int k)) (hb : RdS tb Γ (ns.map .int)) : EvD (tOp (rInA K) ta tb) Γ (.bool (decide (k ∈ ns))) := (ev_inA ha hb rfl (flat_ints ns)).is (by rw [any_ints])
theorem ev_niAI {ns : List Int} {k : Int} (ha : EvD ta Γ (.int k)) (hb : RdS tb Γ (ns.map .int)) : EvD (tOp (rNiA K) ta tb) Γ (.bool (!decide (k ∈ ns))) := (ev_niA ha hb rfl (flat_ints ns)).is (by rw [any_ints])
theorem ev_inAN {ns : List Nat} {k : Nat} (ha : EvD ta Γ (.int k)) (hb : RdS tb Γ (ns.map fun n : Nat => .int n)) : EvD (tOp (rInA K) ta tb) Γ (.bool (decide (k ∈ ns))) := (ev_inA ha hb rfl (flat_nats ns)).is (by rw [any_nats])
theorem ev_niAN {ns : List Nat} {k : Nat} (ha : EvD ta Γ (.int k)) (hb : RdS tb Γ (ns.map fun n : Nat => .int n)) : EvD (tOp (rNiA K) ta tb) Γ (.bool (!decide (k ∈ ns))) := (ev_niA ha hb rfl (flat_nats ns)).is (by rw [any_nats])
/-- .. of any depth, in a list -/
theorem ev_inAD (ha : EvD ta Γ x) (hb : EvD tb Γ (.list ds)) (h : SeqAt.shaped x = true) (k : SeqAt.shaped (.list ds) = true) : EvD (tOp (rInA K) ta tb) Γ (.bool (ds.any fun z => PyData.eqv z x)) :=
  ev_op ha hb fun F H v u s r1 r2 Q q => .inr ⟨x, ds, (r1.mono s).dp, (r2.mono s).dp, h, k, q _ F H (.refl s) (.bl _)⟩
theorem ev_niAD (ha : EvD ta Γ x) (hb : EvD tb Γ (.list ds)) (h : SeqAt.shaped x = true) (k : SeqAt.shaped (.list ds) = true) : EvD (tOp (rNiA K) ta tb) Γ (.bool (!ds.any fun z => PyData.eqv z x)) :=
  ev_op ha hb fun F H v u s r1 r2 Q q => .inr ⟨x, ds, (r1.mono s).dp, (r2.mono s).dp, h, k, q _ F H (.refl s) (.bl _)⟩

/-! ### sorted(set(tuple of ints)) -/
theorem srt_unique : ∀ {xs ys : List Int}, xs.Pairwise (· < ·) → ys.Pairwise (· < ·) → (∀ k, k ∈ xs ↔ k ∈ ys) → xs = ys
  | [], [], _, _, _ => rfl
  | [], y :: ys, _, _, h => absurd ((h y).mpr List.mem_cons_self) List.not_mem_nil
  | x :: xs, [], _, _, h => absurd ((h x).mp List.mem_cons_self) List.not_mem_nil
  | x :: xs, y :: ys, hx, hy, h => by
    rw [List.pairwise_cons] at hx hy
    have e : x = y := by
      rcases List.mem_cons.mp ((h x).mp List.mem_cons_self) with e | e
      · exact e
      · rcases List.mem_cons.mp ((h y).mpr List.mem_cons_self) with f | f
        · exact f.symm
        · have := hx.1 y f; have := hy.1 x e; omega
    subst e
    rw [srt_unique hx.2 hy.2 fun k => ⟨fun m => ?_, fun m => ?_⟩]
    · rcases List.mem_cons.mp ((h k).mp (List.mem_cons_of_mem _ m)) with e | e
      · have := hx.1 k m; omega
      · exact e
    · rcases List.mem_cons.mp ((h k).mpr (List.mem_cons_of_mem _ m)) with e | e
      · have := hy.1 k m; omega
      · exact e
def rSetT (K : PySem.W.Frag) (w : World) : List V → Hp → VK → Prop := fun vs H Q => ∃ (p : Addr) (ns : List Int), vs = [.ref p] ∧ SqT K H p (ns.map V.int) ∧ ns.length ≤ 1000 ∧
  ∀ q n, n ≤ ns.length → H q = none → Q (.ref q) (upd H q (SetO w q (fun j => decide (j ∈ ns)) n))
theorem cr_setT {X : Cx} (hc : X.calm = true) : CallR X (.type "set") (rSetT X.K X.w) := by
  intro pins s σ H vs us Q I r h
  obtain ⟨p, ns, rfl, hq, hl, q⟩ := h
  rw [Vals.ref1 r]
  obtain ⟨its, rv, pt, hz⟩ := I.tuple hq
  have hi : IntsAre its.toArray.toList ns := ints_of_vals rv
  refine call_set_tupI ns (I.ok.hd hc) (show s.heap.IsTuple p its.toArray from pt) hi (by unfold scanBound; omega) fun h' tk c R1 hcn k => ?_
  exact ⟨.ref _, upd H s.heap.objs.size (SetO X.w s.heap.objs.size (fun j => decide (j ∈ ns)) c), I.laid (t' := tk) k (Nat.le_refl _) (setO_new R1), rfl, q _ c hcn (I.hok.fresh (Nat.le_refl _))⟩
theorem en_sortedSet {ns ms : List Int} (h : EvD ta Γ (.tuple (ns.map .int))) (hz : ns.length < 64) (h1 : ms.Pairwise (· < ·)) (h2 : ∀ k, k ∈ ms ↔ k ∈ ns) : EvN (tCB (rSortedSet w) (tCons (tCB (rSetT K w) (tCons ta tNil)) tNil)) Γ (ms.map .int) := fun C B F H σ wd g Q q =>
  h C B F H σ wd g _ fun v F1 H1 g1 r1 => by
    obtain ⟨p, vs, rfl, f, ra⟩ := r1.tup_inv
    refine ⟨p, ns, rfl, SqT.of (by rw [g1.fh _ _ f, ra.ints]), by omega, fun p' n hn hp' => ?_⟩
    refine ⟨p', _, n, rfl, upd_same, by omega, fun ns' l hs hm hl hn' => ?_⟩
    have g2 := g1.trans (.newM (o := SetO w p' (fun j => decide (j ∈ ns)) n) g1.fh hp')
    have e : ns' = ms := srt_unique hs h1 fun k => by rw [hm k, decide_eq_true_eq, h2 k]
    subst e
    exact q _ F1 _ (g2.trans (.newM g2.fh hn')) ⟨l, _, rfl, g2.fresh hn', g2.fh.none hn', upd_same, .of_ints _⟩
end
end Eh

namespace Eh
open PySem PySem.Spec PyProof.Rows L2 RT

theorem nolen_rt : typeLookup (.type "reversed") "__len__" = pure none := by rw [typeLookup_type, builtinLookup_eq_fast]; kernel_rfl
theorem hint_rt : typeLookup (.type "reversed") "__length_hint__" = pure (some (.builtin "reversed.__length_hint__")) := by rw [typeLookup_type, builtinLookup_eq_fast]; kernel_rfl
section
variable {prog : Program} {w : World} {A : Around} {E : Value → Shared → Prop} {s : Shared}
theorem walksRt (hh : A.handled = none) (I l : Addr) (hne : l ≠ I) (items : Array Value) (hz : items.size ≤ sizeLine) :
    Walks prog w A I [I, l] [I] items.size (fun i v => items[items.size - 1 - i]? = some v) (fun i h => i ≤ items.size ∧ IsRt h I l ((items.size : Int) - 1 - (i : Int)) ∧ IsTup h l items) where
  sub := fun b hb => by simp at hb; simp [hb]
  frame := fun _ _ _ x hk => ⟨x.1, x.2.1.at fun o e => hk I (by simp) o e, let ⟨o, ho, r⟩ := x.2.2; ⟨o, hk l (by simp) o ho, r⟩⟩
  item := fun i s Q E hi x hQ => by
    have e : (items.size : Int) - 1 - (i : Int) = ((items.size - 1 - i : Nat) : Int) := by omega
    have hit := x.2.1
    rw [e] at hit
    have hx : items[items.size - 1 - i]? = some (items[items.size - 1 - i]'(by omega)) := Array.getElem?_eq_getElem (by omega)
    refine next_rt_item hit x.2.2 hx hz fun h' hit' hs' => ?_
    have e2 : ((items.size - 1 - i : Nat) : Int) - 1 = (items.size : Int) - 1 - ((i + 1 : Nat) : Int) := by omega
    rw [e2] at hit'
    exact hQ _ h' (s.toks + 1) hx ⟨hi, hit', let ⟨o, ho, r⟩ := x.2.2; ⟨o, (hs'.2 l hne).trans ho, r⟩⟩ fun b o hb eo => hs'.extBut b o (fun h => hb (by simp [h])) eo
  done := fun s Q E x hQ => by
    have e : (items.size : Int) - 1 - (items.size : Int) = -1 := by omega
    have hit := x.2.1
    rw [e] at hit
    exact next_rt_end hh hit fun h' eb => hQ h' s.toks fun b o hb eo => eb b o (fun h => hb (by simp [h])) eo
  self := fun i s Q E st h => iter_rt st.2.1 h
/-- lists filled from an iterator it of the type T -/
theorem extend_it {R : Result → Shared → Prop} {it : Addr} {fp wr : List Addr} {n : Nat} {P : Nat → Value → Prop} {St : Nat → Heap → Prop} {T : String} (W : Walks prog w A.in1 it fp wr n P St) (hn : n ≤ sizeLine)
    (hT : s.TypeIs (.ref it) T) (h2 : (Value.type T == Value.type "list") = false) (h3 : (Value.type T == Value.type "tuple") = false)
    (hhint : ∀ (Q : Bool → Shared → Prop) (E : Value → Shared → Prop), (∀ b tk, Q b { s with toks := tk }) → wpAny (model prog w) A.in1 (Builtin.List.listLengthHint (.ref it)) Q E s)
    (S : Addr) (res : Value) (c₀ : Nat) (hS : s.heap.get? S = some { cls := .type "list", dict := none, data := .seq #[] c₀, slots := #[] }) (hSf : S ∉ fp) (st : St 0 s.heap) (hi : it ∈ fp)
    (hR : ∀ h' tk acc' c', (∀ b o, b ≠ S → b ∉ wr → s.heap.get? b = some o → h'.get? b = some o) → h'.get? S = some { cls := .type "list", dict := none, data := .seq acc' c', slots := #[] } →
      ItemsOf P acc' n → R (.ok (.ret res)) { s with heap := h', toks := tk }) :
    wpAny (model prog w) A.in1 (Builtin.List.listExtendWith (.ref S) (.ref it) res)
      (fun fin s' => match fin with | .done f => R (.ok f) s' | .again c' => c'.quiet = true ∧ codeAny (model prog w) A c' R s') (fun e s' => R (.error e) s') s := by
  have hSr : S ≠ it := fun e => hSf (e ▸ hi)
  have key : ∀ (h : Heap) (c₁ tk : Nat), St 0 h → (∀ b o, b ≠ S → s.heap.get? b = some o → h.get? b = some o) →
      h.get? S = some { cls := .type "list", dict := none, data := .seq #[] c₁, slots := #[] } → codeAny (model prog w) A (.builtin "list.extend.loop" ⟨[.ref S, .ref it, res], []⟩) R { s with heap := h, toks := tk } := by
    intro h c₁ tk st hk hS₁
    refine codeAny_extend_loopS W.toS hn S hSf res n 0 _ #[] c₁ rfl (Nat.zero_le _) st hS₁ (ItemsOf.nil _) fun s' acc' c' hm hS' hacc => ?_
    rw [Moved.eq_with hm]
    exact hR s'.heap s'.toks acc' c' (fun b o hb hw e => hm.heap b o (fun hmem => (List.mem_cons.mp hmem).elim hb hw) (hk b o hb e)) hS' hacc
  unfold Builtin.List.listExtendWith
  refine wpAny_bind (wpAny_typeOf hT ?_)
  have h1 : Builtin.List.listSameRef (.ref S) (.ref it) = false := by simp [Builtin.List.listSameRef, hSr]
  simp only [h1, h2, h3, Bool.or_false, Bool.false_eq_true, if_false]
  refine wpAny_bind (W.self 0 s _ _ st ?_)
  refine wpAny_bind (wpAny_holding (hhint _ _ fun b tk => ?_))
  refine wpAny_ite_split (fun _ => ?_) (fun _ => wpAny_pure ⟨plainId_quiet F.plain_extend_loop _, key _ c₀ _ st (fun b o _ e => e) hS⟩)
  refine wpAny_bind (wpAny_rule ?_)
  refine wpAny_bind ?_
  show wpAny _ _ (updateSeq S (·.push .none) >>= fun _ => updateSeq S (·.pop)) _ _ _
  refine wpAny_bind (wpAny_updateSeq hS rfl ?_)
  have hS₂ := Heap.get?_update_self (Obj.mapSeq (·.push Value.none)) hS rfl
  refine wpAny_updateSeq (hz := by seq_fits) hS₂ rfl ?_
  have hS₃ := Heap.get?_update_self (Obj.mapSeq (·.pop)) hS₂ rfl
  have oth : ∀ b o, b ≠ S → s.heap.get? b = some o → ((s.heap.update S (Obj.mapSeq (·.push Value.none))).update S (Obj.mapSeq (·.pop))).get? b = some o := fun b o hb e =>
    (Heap.get?_update_other _ _ (Ne.symm hb)).trans ((Heap.get?_update_other _ _ (Ne.symm hb)).trans e)
  exact wpAny_pure ⟨plainId_quiet F.plain_extend_loop _, key _ _ _ (W.frame 0 _ _ st fun b hb o e => oth b o (fun z => hSf (z ▸ hb)) e) oth hS₃⟩
theorem call_list_it {it : Addr} {fp wr : List Addr} {n : Nat} {P : Nat → Value → Prop} {St : Nat → Heap → Prop} {T : String} {Q : Value → Shared → Prop} (W : ∀ A : Around, A.handled = none → Walks prog w A it fp wr n P St) (hh : A.handled = none) (hn : n ≤ sizeLine)
    (hT : s.TypeIs (.ref it) T) (h2 : (Value.type T == Value.type "list") = false) (h3 : (Value.type T == Value.type "tuple") = false)
    (hhint : ∀ (A : Around) (s' : Shared) (Q : Bool → Shared → Prop) (E : Value → Shared → Prop), St 0 s'.heap → (∀ b tk, Q b { s' with toks := tk }) → wpAny (model prog w) A (Builtin.List.listLengthHint (.ref it)) Q E s')
    (st : St 0 s.heap) (hi : it ∈ fp) (hf : ∀ b ∈ fp, b < s.heap.objs.size)
    (hQ : ∀ h' tk acc' c', (∀ b o, b ∉ wr → s.heap.get? b = some o → h'.get? b = some o) →
      h'.get? s.heap.objs.size = some { cls := .type "list", dict := none, data := .seq acc' c', slots := #[] } → ItemsOf P acc' n → Q (.ref s.heap.objs.size) { s with heap := h', toks := tk }) :
    wpAny (model prog w) A (call (.type "list") [.ref it]) Q E s := by
  refine callType_codes (Q₁ := fun obj s₁ => obj = .ref s.heap.objs.size ∧ s₁ = { s with heap := s.heap.push { cls := .type "list", data := .seq #[] } }) F.called_list (F.typeCall_list_1 _) F.entry_list_init
    (code_list_new _ ⟨rfl, rfl⟩) fun obj s₁ h₁ => ?_
  obtain ⟨rfl, rfl⟩ := h₁
  have hS : (s.heap.push { cls := .type "list", data := .seq #[] }).get? s.heap.objs.size = some { cls := .type "list", data := .seq #[] } := Heap.get?_push_size _ rfl
  have hSn : s.heap.objs.size ∉ fp := fun z => Nat.lt_irrefl _ (hf _ z)
  refine ⟨⟨_, hS, rfl⟩, F.args_list_init_2 _ _, ?_⟩
  show wpAny _ _ (do let old ← Builtin.List.listItems (.ref s.heap.objs.size); Builtin.List.listUpdate (.ref s.heap.objs.size) (fun _ => #[]); letGo old.toList.reverse; Builtin.List.listExtendWith (.ref s.heap.objs.size) (.ref it) .none) _ _ _
  refine wpAny_bind ?_
  unfold Builtin.List.listItems
  refine wpAny_bind (wpAny_seqItems hS rfl (wpAny_pure ?_))
  show wpAny _ _ (updateSeq s.heap.objs.size (fun _ => #[]) >>= fun _ => letGo (#[] : Array Value).toList.reverse >>= fun _ => Builtin.List.listExtendWith (.ref s.heap.objs.size) (.ref it) .none) _ _ _
  refine wpAny_bind (wpAny_updateSeq hS rfl ?_)
  have hS₂ := Heap.get?_update_self (Obj.mapSeq (fun _ => (#[] : Array Value))) hS rfl
  have oth : ∀ b o, b ≠ s.heap.objs.size → s.heap.get? b = some o → ((s.heap.push { cls := .type "list", data := .seq #[] }).update s.heap.objs.size (Obj.mapSeq (fun _ => (#[] : Array Value)))).get? b = some o :=
    fun b o hb e => (Heap.get?_update_other _ _ (Ne.symm hb)).trans (Heap.get?_push_of_some _ e)
  refine wpAny_bind (wpAny_letGo ?_)
  obtain ⟨oi, hoi, hci⟩ := id hT
  have hT2 : ({ s with heap := (s.heap.push { cls := .type "list", data := .seq #[] }).update s.heap.objs.size (Obj.mapSeq (fun _ => (#[] : Array Value))) } : Shared).TypeIs (.ref it) T := ⟨oi, oth it oi (Nat.ne_of_lt (hf it hi)) hoi, hci⟩
  have st2 := (W A hh).frame 0 s.heap _ st fun b hb o e => oth b o (Nat.ne_of_lt (hf b hb)) e
  refine extend_it (A := A.in1) (T := T) (W _ hh) hn hT2 h2 h3 (fun Q E q => hhint _ _ Q E st2 q) _ _ _ hS₂ hSn st2 hi fun h' tk acc' c' hk hS' hacc => ?_
  exact ⟨rfl, hQ h' tk acc' c' (fun b o hb e => hk b o (Nat.ne_of_lt (Heap.lt_size e)) hb (oth b o (Nat.ne_of_lt (Heap.lt_size e)) e)) hS' hacc⟩
theorem slot_rt_hint : Slot "reversed" "__length_hint__" "reversed.__length_hint__" :=
  .of (owner := "reversed") (n := "__length_hint__") (by rw [typeLookup_type, builtinLookup_eq_fast]; kernel_rfl) (by decide +kernel) (by decide +kernel) (by decide +kernel)
    (by first | exact .inl (by decide +kernel) | exact .inr (by decide +kernel)) (by rw [isSubtype_type]; kernel_rfl)
theorem entry_rt_hint : entryFor table "reversed.__length_hint__" = some Builtin.«reversed.__length_hint__» := entryFor_of_tree (by kernel_rfl)
theorem args_rt_hint (a : Value) : argsOk "reversed.__length_hint__" ⟨[a], []⟩ := by
  unfold argsOk; rw [signature?_of (id := "reversed.__length_hint__") (n := "__length_hint__".toList.reverse) (o := ['d', 'e', 's', 'r', 'e', 'v', 'e', 'r']) (by kernel_rfl) owner_rt]; kernel_rfl
theorem hintRt {it l : Addr} {items : Array Value} {Q : Bool → Shared → Prop} (hit : IsRt s.heap it l ((items.size : Int) - 1)) (ht : IsTup s.heap l items) (hz : items.size ≤ 16777216)
    (hlen : ∀ (A : Around) (E : Value → Shared → Prop) (s' : Shared) (Q : Value → Shared → Prop), IsTup s'.heap l items → (∀ tk tk', Q (.int items.size tk) { s' with toks := tk' }) → wpAny (model prog w) A (call (.builtin "len") [.ref l]) Q E s')
    (q : ∀ b tk, Q b { s with toks := tk }) : wpAny (model prog w) A (Builtin.List.listLengthHint (.ref it)) Q E s := by
  have hT := hit.typeIs
  obtain ⟨o, ho, hc, hd⟩ := id hit
  unfold Builtin.List.listLengthHint
  refine wpAny_bind (wpAny_specialOf hT nolen_rt ?_)
  show wpAny _ A (specialOf (Value.ref it) (Str.ofString "__length_hint__") >>= _) _ _ _
  refine wpAny_bind (wpAny_specialOf hT hint_rt ?_)
  generalize hid : ("reversed.__length_hint__" : String) = id0
  wp_delta
  rw [show splitId id0 = some ("reversed", "__length_hint__") from by subst hid; decide +kernel]
  subst hid
  refine wpAny_bind (wpAny_isInstance (b := true) hT (by rw [isSubtype_type]; kernel_rfl) ?_)
  refine wpAny_ite_split (fun hab => absurd hab (by decide)) (fun _ => ?_)
  refine wpAny_ite_split (fun hab => absurd hab (by decide +kernel)) (fun _ => ?_)
  refine wpAny_bind (wpAny_rule ?_)
  refine wpAny_bind (wpAny_of_eq (slot_rt_hint.bind _) ?_)
  try dsimp only
  refine wpAny_bind (wpAny_attempt (wpAny_call_entry slot_rt_hint hT entry_rt_hint ?_ (args_rt_hint _)))
  unfold Builtin.«reversed.__length_hint__»
  refine wpAny_bind (wpAny_of_eq (a := Value.ref it) rfl ?_)
  refine wpAny_bind (wpAny_field ho hd (x := .ref l) rfl ?_)
  try dsimp only
  rw [if_neg (show ¬ ((Value.ref l == Value.none) = true) from by simp)]
  refine wpAny_bind (hlen _ _ s _ ht fun tk tk' => ?_)
  refine wpAny_bind (wpAny_of_eq (a := some ((items.size : Nat) : Int)) rfl ?_)
  try dsimp only
  refine wpAny_bind (wpAny_field (s := { s with toks := tk' }) ho hd (x := rawInt ((items.size : Int) - 1)) rfl ?_)
  show wpAny _ _ (if (items.size : Int) < (items.size : Int) - 1 + 1 then _ else _) _ _ _
  rw [if_neg (by omega)]
  refine wpAny_bind (wpAny_mkInt (wpAny_pure ?_))
  refine ⟨_, rfl, ?_⟩
  show wpAny _ A (asInt? (Value.int ((items.size : Int) - 1 + 1) tk') >>= _) _ _ _
  refine wpAny_bind (wpAny_of_eq (a := some ((items.size : Int) - 1 + 1)) rfl ?_)
  have e0 : (items.size : Int) - 1 + 1 = (items.size : Int) := by omega
  rw [e0]
  have f1 : Builtin.List.listFitsIndex (items.size : Int) = true := by
    unfold Builtin.List.listFitsIndex
    rw [Bool.and_eq_true]
    exact ⟨decide_eq_true (by omega), decide_eq_true (by omega)⟩
  have hsl : items.size ≤ sizeLine := by rw [sizeLine_eq]; omega
  have htl : Builtin.List.listTooLong ((items.size : Int).toNat) = false := by
    unfold Builtin.List.listTooLong
    exact decide_eq_false (by rw [Int.toNat_natCast]; exact Nat.not_lt.mpr hsl)
  dsimp only
  rw [f1, if_neg (by decide), if_neg (show ¬ ((items.size : Int) < 0) by omega), htl, if_neg Bool.false_ne_true]
  exact wpAny_pure (q _ _)
end
/-- list(reversed(x)), x a tuple -/
def tListRevT (K : PySem.W.Frag) (te : TE) : TE := fun σ H Q => te σ H fun v H1 => ∃ (a : Addr) (xs : List V), v = .ref a ∧ SqT K H1 a xs ∧ xs.length ≤ 100000 ∧ ∀ q, H1 q = none → Q (.ref q) (upd H1 q (.lst xs.reverse))
theorem pe_listRevT {X : Cx} {e : Expr} {te : TE} {p p2 pos pos2 : Pos} (hc : X.calm = true) (hg : Gl X "list") (hm : X.mg "list" = none) (hg2 : Gl X "reversed") (hm2 : X.mg "reversed" = none) (he : PE X e te)
    (hs : starEach [e] X.env = (false, eval e X.env) :: starEach [] X.env := by rfl)
    (hs2 : starEach [.Call (.Name "reversed" p2) [e] [] pos2] X.env = (false, eval (.Call (.Name "reversed" p2) [e] [] pos2) X.env) :: starEach [] X.env := by rfl) :
    PE X (.Call (.Name "list" p) [.Call (.Name "reversed" p2) [e] [] pos2] [] pos) (tListRevT X.K te) := by
  refine ⟨fun pins s σ H Q I h => ?_⟩
  refine Call_ (ld_blt I hg hm boot_list (PyProof.Rows.callWith_type1 (args_cons (Call_ (ld_blt I hg2 hm2 PyProof.Rows.boot_reversed (PyProof.Rows.callWith_type1 (args_cons (thn (he.run pins s σ H _ I h) fun u s1 ⟨v, H1, I1, r1, q1⟩ => args_nil ?_) hs) hs rfl))) hs2) hs2 rfl))
  obtain ⟨a, xs, ev, hq, hlen, q⟩ := q1
  subst ev
  obtain rfl : u = Value.ref a := r1
  obtain ⟨its, rv, p', hz⟩ := I1.tuple hq
  have hl := rv.length
  have hn63 := line63
  refine call_reversed_tup p' (fun A E Q k => len_tuple p' (by simp only [List.size_toArray] <;> omega) k) (args_nil ?_)
  have k0 : ∀ b o, s1.heap.get? b = some o → (s1.heap.push (rtObj a ((its.toArray.size : Int) - 1))).get? b = some o := fun b o e => Heap.get?_push_of_some _ e
  have I2 : Inv X pins σ H1 { s1 with heap := s1.heap.push (rtObj a ((its.toArray.size : Int) - 1)), toks := s1.toks + 1 + 1 } := I1.kept (t' := s1.toks + 1 + 1) k0
  obtain ⟨f0, f1, f2, f3, f4, f5⟩ := I1.fpOk (H' := H1) (b := s1.heap.objs.size) (Nat.le_refl _) (I1.hok.fresh (Nat.le_refl _))
  obtain ⟨ot, hot, hrt⟩ := id p'
  have hal := Heap.lt_size hot
  have hne : a ≠ s1.heap.objs.size := Nat.ne_of_lt hal
  have hn : its.toArray.size ≤ sizeLine := by rw [List.size_toArray, ← rv.length]; exact hz
  have hsz : (s1.heap.push (rtObj a ((its.toArray.size : Int) - 1))).objs.size = s1.heap.objs.size + 1 := Heap.size_push ..
  have hit : IsRt (s1.heap.push (rtObj a ((its.toArray.size : Int) - 1))) s1.heap.objs.size a ((its.toArray.size : Int) - 1 - ((0 : Nat) : Int)) := ⟨_, Heap.get?_push_size _ rfl, rfl, by simp [rtObj]⟩
  refine call_list_it (s := { s1 with heap := s1.heap.push (rtObj a ((its.toArray.size : Int) - 1)), toks := s1.toks + 1 + 1 }) (T := "reversed") (fun A hh => walksRt hh s1.heap.objs.size a hne its.toArray hn) (I1.ok.hd hc) hn ⟨_, Heap.get?_push_size _ rfl, rfl⟩ (by decide) (by decide)
    (fun A s' Q E st q => ?_) ⟨Nat.zero_le _, hit, ⟨ot, k0 _ _ hot, hrt⟩⟩ (by simp) (fun b hb => ?_) fun h' tk acc c' hk hS hi => ?_
  · refine hintRt (items := its.toArray) (by have z := st.2.1; simpa using z) st.2.2 (by simp only [List.size_toArray]; omega) (fun A E s2 Q p2 k => len_tuple p2 (by simp only [List.size_toArray] <;> omega) (k _ _)) q
  · rcases List.mem_cons.mp hb with e | e
    · rw [e, hsz]; exact Nat.lt_succ_self _
    · rw [List.mem_singleton.mp e, hsz]; exact Nat.lt_succ_of_lt hal
  · have I3 : Inv X pins σ H1 { s1 with heap := h', toks := tk } := I2.turned (t' := tk) (fun b o hb e => hk b o (by simpa using hb) e) f0 f1 f3 f4 f5
    have hb : s1.heap.objs.size + 1 = (s1.heap.push (rtObj a ((its.toArray.size : Int) - 1))).objs.size := hsz.symm
    have J : Inv X pins σ (upd H1 (s1.heap.push (rtObj a ((its.toArray.size : Int) - 1))).objs.size (.lst xs.reverse)) { s1 with heap := h', toks := tk } := by
      refine I2.turnedNew (ch := [s1.heap.objs.size]) (fun b o hb e => hk b o hb e) (fun b hb => ?_) (Nat.le_refl _) (show ObjOk X.prog X.w _ _ _ (.lst xs.reverse) from ⟨by rw [List.length_reverse]; exact hz, acc.toList, c', vals_rev rv hi, ?_⟩)
      · rw [List.mem_singleton.mp hb]; exact ⟨f0, f1, f2, f3, f4, f5⟩
      · rw [Array.toArray_toList]; exact hS
    exact ⟨.ref _, _, J, rfl, q _ (I2.hok.fresh (Nat.le_refl _))⟩
section
variable {te ta tb : TE} {Γ : List Sl} {d x y : PyData} {ds es : List PyData} {K : PySem.W.Frag} {ts : TA}
theorem en_listRevT (h : EvD te Γ (.tuple ds)) (hz : ds.length ≤ 100000) : EvN (tListRevT K te) Γ ds.reverse := fun C B F H σ w g Q q =>
  h C B F H σ w g _ fun v F1 H1 g1 r1 => by
    obtain ⟨a, xs, rfl, f, ra⟩ := r1.tup_inv
    exact ⟨a, xs, rfl, SqT.of (g1.fh _ _ f), by rw [ra.length]; exact hz, fun p hp => q _ F1 _ (g1.trans (.newM g1.fh hp)) ⟨p, _, rfl, g1.fresh hp, g1.fh.none hp, upd_same, ra.reverse⟩⟩
/-- enumerate(..) -/
theorem zip_get {α : Type} (xs : List α) (i : Nat) (k : Nat) : (xs.zipIdx k)[i]? = (xs[i]?).map fun x => (x, i + k) := by
  rw [List.getElem?_zipIdx]
  cases xs[i]? with
  | none => rfl
  | some x => simp [Nat.add_comm]
theorem wk_enumL {a : Addr} {vs : List V} {F H : Hp} {ds : List PyData} (s : Sub F H) (h : H a = some (.lst vs)) (r : RpAll F vs ds) :
    (∀ i d, (ds.zipIdx.map fun p => PyData.tuple [.int p.2, p.1])[i]? = some d → (Ite K a).go i H ∧ ∀ x H', (Ite K a).yld i H x H' → ∃ F', Grow [] F H F' H' ∧ Rp F' x d) ∧ (Ite K a).stop (ds.zipIdx.map fun p => PyData.tuple [.int p.2, p.1]).length H :=
  ⟨fun i d e => by
    rw [List.getElem?_map, zip_get] at e
    cases q : ds[i]? with
    | none => rw [q] at e; cases e
    | some y =>
      rw [q] at e
      cases e
      obtain ⟨v, h1, h2⟩ := r.get q
      refine ⟨⟨vs, v, SqL.of h, h1⟩, fun x H' ⟨T, z, e1, e2, e3, e4⟩ => ?_⟩
      subst e1 e3
      have e5 := e4 vs (SqL.of h)
      rw [h1] at e5; cases e5
      exact ⟨_, .new s e2, .tup upd_same (.cons (by rw [Nat.add_zero]; exact .int _) (.cons (h2.mono (Sub.new (s.none e2))) .nil))⟩, ⟨vs, SqL.of h, by rw [r.length]; simp⟩⟩
theorem wk_enumT {a : Addr} {vs : List V} {F H : Hp} {ds : List PyData} (s : Sub F H) (h : H a = some (.tup vs)) (r : RpAll F vs ds) :
    (∀ i d, (ds.zipIdx.map fun p => PyData.tuple [.int p.2, p.1])[i]? = some d → (IteT K a).go i H ∧ ∀ x H', (IteT K a).yld i H x H' → ∃ F', Grow [] F H F' H' ∧ Rp F' x d) ∧ (IteT K a).stop (ds.zipIdx.map fun p => PyData.tuple [.int p.2, p.1]).length H :=
  ⟨fun i d e => by
    rw [List.getElem?_map, zip_get] at e
    cases q : ds[i]? with
    | none => rw [q] at e; cases e
    | some y =>
      rw [q] at e
      cases e
      obtain ⟨v, h1, h2⟩ := r.get q
      refine ⟨⟨vs, v, SqT.of h, h1⟩, fun x H' ⟨T, z, e1, e2, e3, e4⟩ => ?_⟩
      subst e1 e3
      have e5 := e4 vs (SqT.of h)
      rw [h1] at e5; cases e5
      exact ⟨_, .new s e2, .tup upd_same (.cons (by rw [Nat.add_zero]; exact .int _) (.cons (h2.mono (Sub.new (s.none e2))) .nil))⟩, ⟨vs, SqT.of h, by rw [r.length]; simp⟩⟩
theorem ih_enum (h : RdS te Γ ds) : IterH (iEnumA K (tCons te tNil)) Γ (ds.zipIdx.map fun p => .tuple [.int p.2, p.1]) := fun C B F H σ w g R r => h C B F H σ w g _ fun v F1 H1 g1 ⟨p, vs, e, l, ra⟩ => by
  subst e
  refine ⟨p, rfl, ?_⟩
  rcases l with l | l
  · exact .inl ⟨⟨vs, SqL.of l⟩, r _ F1 H1 g1 fun F2 H2 g2 => wk_enumL g2.fh (g2.sub _ _ l) (ra.mono g2.ff)⟩
  · exact .inr ⟨⟨vs, SqT.of l⟩, r _ F1 H1 g1 fun F2 H2 g2 => wk_enumT g2.fh (g2.sub _ _ l) (ra.mono g2.ff)⟩
theorem if_enumL (h : EvD te Γ (.list ds)) : IterF (iEnumA K (tCons te tNil)) Γ (ds.zipIdx.map fun p => .tuple [.int p.2, p.1]) := fun C B F H σ w g R r => h C B F H σ w g _ fun v F1 H1 g1 r1 => by
  obtain ⟨p, vs, rfl, l, ra⟩ := Rp.lst_inv r1
  exact ⟨p, rfl, .inl ⟨⟨vs, SqL.of (g1.fh _ _ l)⟩, r _ F1 H1 g1 fun F2 H2 s1 s2 => wk_enumL s2 (s2 _ _ (s1 _ _ l)) (ra.mono s1)⟩⟩
theorem if_enumT (h : EvD te Γ (.tuple ds)) : IterF (iEnumA K (tCons te tNil)) Γ (ds.zipIdx.map fun p => .tuple [.int p.2, p.1]) := fun C B F H σ w g R r => h C B F H σ w g _ fun v F1 H1 g1 r1 => by
  obtain ⟨p, vs, rfl, l, ra⟩ := Rp.tup_inv r1
  exact ⟨p, rfl, .inr ⟨⟨vs, SqT.of (g1.fh _ _ l)⟩, r _ F1 H1 g1 fun F2 H2 s1 s2 => wk_enumT s2 (s2 _ _ (s1 _ _ l)) (ra.mono s1)⟩⟩
end
end Eh

namespace Eh
open PySem PySem.Spec PyProof.Rows L2

/-! ### try, except: what the text says -/
section
variable {X : Cx} {a : Addr} {oe : Obj} {cls : Value} {d : Option Addr} {pn : List (Addr × Obj)}
/-- isinstance(e, c) of the caught error, of a class without a dict of its own -/
def rIsX (K : PySem.W.Frag) (a : Addr) (cls : Value) (d : Option Addr) : List V → Hp → VK → Prop := fun xs H Q => ∃ D, cls = .ref D ∧ d = none ∧ ExcC K D ∧ rIsE K D a xs H Q
theorem call_isX (hz : L2N.Zn cls d oe) (hf : ∃ vs, oe.data = .fields vs) : CallR (X.suite a ((a, oe) :: pn)) (.builtin "isinstance") (rIsX X.K a cls d) := by
  intro pins s σ H xs us Q I r h
  obtain ⟨D, rfl, rfl, C, h⟩ := h
  exact call_isE C hz.zc hf pins s σ H xs us Q I r h
theorem hot_of (hz : L2N.Zn cls d oe) (hf : ∃ vs, oe.data = .fields vs) : L2H.HotC (X.suite a ((a, oe) :: pn)) := by
  obtain ⟨vs, e⟩ := hf
  exact ⟨(a, oe), ⟨rfl, vs, e, hz.2.2 vs e⟩, List.mem_cons_self⟩
theorem dCallS {k j : Nat} {x : Str} {sp : Sp} {W : WX} {e : Expr} {es : List Expr} {t : TA} {p pos : Pos} (c : Cl X.prog X.w X.K X.mg X.base k x sp) (hr : Room j X.A) (hk : k ≤ j) (hg : Gl X x) (tk : L2N.Takes X W) (ha : PA X (e :: es) t)
    (hdb : (x == ("__debug__" : Str)) = false := by decide) (he : starEach (e :: es) X.env = (false, eval e X.env) :: starEach es X.env := by rfl) (hpl : (backTo pos (starEach es X.env)).any (·.1) = false := by rfl) :
    PE X (.Call (.Name x p) (e :: es) [] pos) (tCallS sp (WE W) t) := by
  obtain ⟨f, fd, ps, F, m, kp, b⟩ := c.ex
  exact pe_callS F (hr.mono hk) hg m kp b (fun σ => L2N.passAt tk σ) ha hdb he hpl
end
def tTryAs (K : PySem.W.Frag) (c : Value) (i : Nat) (ts : Addr → Value → Option Addr → TS) (Wout : WX) (tb : WX → TS) : TS := fun D σ H => tb (wAs K c i ts Wout D) D σ H
/-! ### .. and what it does -/
def XAt (C : Pc) (B F0 : Hp) (Γ : List Sl) (W : WX) (c : Addr) (f : Option (List (Str × V))) : Prop := ∀ F H σ cv dd, Wd C F H → Grow C.S F0 B F H → Gm C B F H σ Γ → XcOk c f cv dd H → W cv dd σ H
section
variable {C : Pc} {B F0 : Hp} {Γ : List Sl} {te ta tb : TE} {tt : TT} {tA : TA} {D : Ends} {i : Nat} {d : PyData} {ds es : List PyData} {K : PySem.W.Frag} {W Wout : WX} {R : List PyData → Out → Prop} {o : Out} {J c : Addr} {ts : Addr → Value → Option Addr → TS}
theorem at_dropS (h : EvA tA Γ ds) (hR : R ds o) (hok : ∀ d, o = .ok d → At C B F0 Γ D.nx) (hx : ∀ c f, o = .err c f → XAt C B F0 Γ W c f) : At C B F0 Γ (tDrop (tCallS (spR R) (WE W) tA) D) := fun F H σ w g e =>
  h C B F H σ w e _ fun vs F1 H1 g1 r1 => ⟨F1, ds, o, g1.fh, r1, hR, fun d e2 v F2 H2 g2 r2 => hok d e2 F2 H2 σ ((w.grow g1).grow g2) (g.trans (g1.trans g2).weak) (e.grow (g1.trans g2).weak),
    fun c f e2 cv dd F2 H2 g2 x => hx c f e2 F2 H2 σ cv dd ((w.grow g1).grow g2) (g.trans (g1.trans g2).weak) (e.grow (g1.trans g2).weak) x⟩
theorem xat_as (hm : PySem.W.exmOne K (.ref c) (.ref J) = some true)
    (h : ∀ a, At C B F0 (Γ.set i (.ref a)) (ts a (.ref c) none { nx := fun σ' H' => D.nx (σ'.set i none) H', rt := D.rt, bk := fun σ' H' => D.bk (σ'.set i none) H', ct := fun σ' H' => D.ct (σ'.set i none) H' })) :
    XAt C B F0 Γ (wAs K (.ref J) i ts Wout D) c none := fun F H σ cv dd w g e ⟨x1, x2⟩ => by
  subst x1
  have x3 : dd = none := x2
  subst x3
  exact ⟨true, hm, fun _ a ha => h a F H _ w g (e.set (s := .ref a) rfl fun _ z => nomatch z), fun z => nomatch z⟩
/-- behind the suite -/
theorem at_unset {P : L2.St → Hp → Prop} (h : At C B F0 (Γ.set i .no) P) : At C B F0 Γ (fun σ H => P (σ.set i none) H) := fun F H σ w g e => h F H _ w g (e.forget none)
theorem ev_isX {a D : Addr} {cv : Value} {x : V} {b : Bool} (hi : Γ[i]? = some (.ref a)) (hC : ExcC K D) (hk : PySem.W.kitOne K (.ref D) cv = some b) (hx : ∀ u, RelV x u → u = cv) :
    EvD (tCB (rIsX K a (.ref D) none) (tCons (tVar i) (tCons (tC x) tNil))) Γ (.bool b) := fun C B F H σ w g Q q =>
  ⟨_, g.ok i _ hi, D, rfl, rfl, hC, x, cv, b, rfl, hx, hk, q _ F H (.refl w.sub) (.bl b)⟩
theorem ev_isXr {a D E : Addr} {b : Bool} (hi : Γ[i]? = some (.ref a)) (hC : ExcC K D) (hk : PySem.W.kitOne K (.ref D) (.ref E) = some b) : EvD (tCB (rIsX K a (.ref D) none) (tCons (tVar i) (tCons (tC (.ref E)) tNil))) Γ (.bool b) :=
  ev_isX hi hC hk fun u r => r
theorem ev_isXt {a D : Addr} {T : String} {b : Bool} (hi : Γ[i]? = some (.ref a)) (hC : ExcC K D) (hk : PySem.W.kitOne K (.ref D) (.type T) = some b) : EvD (tCB (rIsX K a (.ref D) none) (tCons (tVar i) (tCons (tC (.ty T)) tNil))) Γ (.bool b) :=
  ev_isX hi hC hk fun u r => r
theorem ih_list (h : RdL te Γ ds) : IterH (iList K te) Γ ds := fun C B F H σ w g R r => h C B F H σ w g _ fun v F1 H1 g1 ⟨p, vs, e, l, ra⟩ => by
  subst e
  exact ⟨p, rfl, ⟨vs, SqL.of l⟩, r _ F1 H1 g1 fun F2 H2 g2 => wk_list g2.fh (g2.sub _ _ l) (ra.mono g2.ff)⟩
end
/-! ### facts of the text's errors, as Bools -/
def excCB (K : PySem.W.Frag) (D : Addr) : Bool := decide (PySem.W.findIn K (.ref D) "__getattribute__" = some (some (.builtin "BaseException.__getattribute__"))) && (decide (PySem.W.findIn K (.ref D) "__getattr__" = some none) && (decide (PySem.W.subIn K (.ref D) (.type "BaseException") = some true) &&
  (PySem.W.hasDictIn K D && (decide (PySem.W.findIn K (.ref D) "__class__" = some (some (.builtin "object.__class__"))) && (decide (PySem.W.specialIn K (.builtin "object.__class__") "__get__" = some (some (.builtin "getset_descriptor.__get__"))) &&
  (decide (PySem.W.takesIn K (.builtin "object.__class__") = some true) && decide (PySem.W.mroIn K D (.type "object") = some true)))))))
theorem excCB_ok {K : PySem.W.Frag} {D : Addr} (h : excCB K D = true) : ExcC K D := by
  unfold excCB at h
  simp only [Bool.and_eq_true, decide_eq_true_eq] at h
  obtain ⟨h1, h2, h3, h4, h5, h6, h7, h8⟩ := h
  exact ⟨h1, h2, h3, h4, h5, h6, h7, h8⟩
def kitNB (K : PySem.W.Frag) (D : Addr) (v : Value) (b : Bool) : Bool := decide (PySem.W.kitOne K (.ref D) v = some b)
def exmNB (K : PySem.W.Frag) (D J : Addr) (b : Bool) : Bool := decide (PySem.W.exmOne K (.ref D) (.ref J) = some b)
def noAtB (K : PySem.W.Frag) (D : Addr) (n : Str) : Bool := decide (PySem.W.findIn K (.ref D) n = some none)
/-- a Hook with more Bools -/
def hookE (n : Nat) (fa : List He.Fa) (fn : List He.DefD) (ex : List (PySem.W.Frag → Bool)) : PySem.W.Hook where
  α := He.AlD × Bool
  obs := fun s => (He.obsDG n fa fn s.heap.get?, ex.all fun f => f (He.frG s.heap.get? (He.asD s.heap.get? n)))
  val := fun _ => (He.valD fn, true)
  says := fun _ h => ∃ K : PySem.W.Frag, K.In h ∧ He.SaysD fa fn K ∧ ∀ f ∈ ex, f K = true
  of := fun _ _ e => ⟨_, He.frG_in, congrArg (fun z : He.AlD × Bool => z.1) e, List.all_eq_true.mp (congrArg (fun z : He.AlD × Bool => z.2) e)⟩
  keeps := fun _ _ _ ⟨K, hK, c⟩ k => ⟨K, PySem.W.Frag.In.keeps hK k, c⟩
def obE (n : Nat) (fa : List He.Fa) (fn : List He.DefD) (ex : List (PySem.W.Frag → Bool)) (g : Addr → Option Obj) : He.AlD × Bool := (He.obsDG n fa fn g, ex.all fun f => f (He.frG g (He.asD g n)))
theorem obE_eq {n : Nat} {fa : List He.Fa} {fn : List He.DefD} {ex : List (PySem.W.Frag → Bool)} {g : Addr → Option Obj} {s : Shared} (h : ∀ a, g a = s.heap.get? a) : obE n fa fn ex g = (hookE n fa fn ex).obs s := by
  have e : g = s.heap.get? := funext h
  rw [e] <;> rfl
end Eh

namespace Eh
open PySem PySem.Spec PyProof.Rows L2

/-! ### what stands exactly -/
def Ex (te : TE) (σ : L2.St) (H : Hp) (v : V) (H' : Hp) : Prop := ∀ Q : VK, Q v H' → te σ H Q
def ExT (tt : TT) (σ : L2.St) (H : Hp) (b : Bool) (H' : Hp) : Prop := ∀ Q : Bool → Hp → Prop, Q b H' → tt σ H Q
section
variable {te ta tb : TE} {tt tu : TT} {σ : L2.St} {H H1 H2 : Hp} {v u : V} {i j : Int} {K : PySem.W.Frag} {D : Ends} {t : TS}
theorem ex_var {n : Nat} (h : σ[n]? = some (some v)) : Ex (tVar n) σ H v H := fun Q q => ⟨v, h, q⟩
theorem ex_c : Ex (tC v) σ H v H := fun Q q => q
theorem ex_add (a : Ex ta σ H (.int i) H1) (b : Ex tb σ H1 (.int j) H2) : Ex (tOp (rAddA K) ta tb) σ H (.int (i + j)) H2 := fun Q q => a _ (b _ (.inl ⟨i, j, rfl, rfl, q⟩))
theorem ex_mul (a : Ex ta σ H (.int i) H1) (b : Ex tb σ H1 (.int j) H2) (c : CMul i j) : Ex (tOp (rMulA K) ta tb) σ H (.int (i * j)) H2 := fun Q q => a _ (b _ (.inl ⟨i, j, rfl, rfl, c, q⟩))
theorem ex_mod (a : Ex ta σ H (.int i) H1) (b : Ex tb σ H1 (.int j) H2) (c : 0 < j) : Ex (tOp rModI ta tb) σ H (.int (i % j)) H2 := fun Q q => a _ (b _ ⟨i, j, rfl, rfl, c, q⟩)
theorem ex_div (a : Ex ta σ H (.int i) H1) (b : Ex tb σ H1 (.int j) H2) (c : CDiv i j) : Ex (tOp rDivI ta tb) σ H (.int (i / j)) H2 := fun Q q => a _ (b _ ⟨i, j, rfl, rfl, c, q⟩)
theorem ex_int (a : Ex ta σ H (.int i) H1) : Ex (tCB rIntA (tCons ta tNil)) σ H (.int i) H1 := fun Q q => a _ (.inl ⟨i, rfl, q⟩)
theorem ex_ix {p : Addr} {xs : List V} (a : Ex ta σ H (.ref p) H1) (b : Ex tb σ H1 (.int i) H2) (h : H2 p = some (.lst xs)) (e : atI xs i = some v) : Ex (tOp (rIx K) ta tb) σ H v H2 := fun Q q => a _ (b _ (.inl ⟨p, xs, i, v, rfl, rfl, SqL.of h, e, q⟩))
theorem ex_len {p : Addr} {xs : List V} (a : Ex ta σ H (.ref p) H1) (h : H1 p = some (.lst xs)) : Ex (tCB (rLenA K) (tCons ta tNil)) σ H (.int xs.length) H1 := fun Q q => a _ (.inl ⟨p, xs, rfl, .inl (SqL.of h), q⟩)
theorem ex_gt (a : Ex ta σ H (.int i) H1) (b : Ex tb σ H1 (.int j) H2) : ExT (tTest (tOp rGtI ta tb)) σ H (decide (j < i)) H2 := fun Q q => a _ (b _ ⟨i, j, rfl, rfl, _, rfl, q⟩)
theorem ex_eq (a : Ex ta σ H (.int i) H1) (b : Ex tb σ H1 (.int j) H2) : ExT (tTest (tOp (rEqA K) ta tb)) σ H (decide (i = j)) H2 := fun Q q => a _ (b _ (.inl ⟨rfl, _, rfl, by
  rw [show decide (V.int i = V.int j) = decide (i = j) by rw [dec_int, Bool.beq_eq_decide_eq]]
  exact q⟩))
theorem ex_and {a b : Bool} (h : ExT tt σ H a H1) (k : a = true → ExT tu σ H1 b H2) (n : a = false → H1 = H2) : ExT (tAnd tt tu) σ H (a && b) H2 := fun Q q => h _ (by
  cases a with
  | true => exact k rfl Q q
  | false => rw [← n rfl] at q; exact q)
theorem ex_pop {p : Addr} {xs : List V} {k : Nat} (a : Ex ta σ H (.ref p) H1) (b : Ex tb σ H1 (.int (k : Int)) H2) (h1 : H1 p = some (.lst xs)) (h : H2 p = some (.lst xs)) (hk : xs[k]? = some v) (hz : xs.length < 100000) :
    Ex (tBM K "list" rPopAt ta (tCons tb tNil)) σ H v (upd H2 p (.lst (xs.eraseIdx k))) := fun Q q => a _ (by
  have hl := (List.getElem?_eq_some_iff.mp hk).1
  exact ⟨.inl ⟨rfl, xs, SqL.of h1⟩, b _ ⟨p, xs, (k : Nat), k, v, rfl, rfl, h, by omega, by omega, seqIndex_of (by omega) (by omega), hk, q⟩⟩)
theorem sx_asg {n : Nat} (h : Ex te σ H v H1) (k : D.nx (σ.set n (some v)) H1) : tAsg te (gName n) D σ H := h _ k
theorem sx_set {n : Int} {m : Nat} {p : Addr} {xs : List V} (h : Ex te σ H v H1) (a : Ex ta σ H1 (.ref p) H1) (b : Ex tb σ H1 (.int n) H1) (hp : H1 p = some (.lst xs)) (hk : ixN xs.length n = some m) (k : D.nx σ (upd H1 p (.lst (xs.set m v)))) :
    tAsg te (gSub ta tb rSetL) D σ H := h _ (a _ (b _ ⟨p, xs, n, m, rfl, rfl, hp, hk, k⟩))
theorem ixN_nat {n k : Nat} (h : k < n) : ixN n (k : Int) = some k := by
  unfold ixN
  rw [if_pos (by omega), if_pos (by omega)]; simp
theorem ex_ixN {p : Addr} {xs : List V} (k : Nat) (a : Ex ta σ H (.ref p) H1) (b : Ex tb σ H1 (.int (k : Int)) H2) (h : H2 p = some (.lst xs)) (e : xs[k]? = some v) : Ex (tOp (rIx K) ta tb) σ H v H2 := ex_ix a b h (atI_nat e)
theorem sx_setN (m : Nat) {p : Addr} {xs : List V} (h : Ex te σ H v H1) (a : Ex ta σ H1 (.ref p) H1) (b : Ex tb σ H1 (.int (m : Int)) H1) (hp : H1 p = some (.lst xs)) (hk : m < xs.length) (k : D.nx σ (upd H1 p (.lst (xs.set m v)))) :
    tAsg te (gSub ta tb rSetL) D σ H := sx_set h a b hp (ixN_nat hk) k
theorem sx_ret (h : Ex te σ H v H1) (k : D.rt v H1) : tRet te D σ H := h _ k
theorem sx_if {b : Bool} {u : TS} (h : ExT tt σ H b H1) (k1 : b = true → t D σ H1) (k2 : b = false → u D σ H1) : tIfS tt t u D σ H := h _ (by
  cases b with
  | true => exact k1 rfl
  | false => exact k2 rfl)
end
/-! ### a frozen list that is read -/
theorem FzL.sq {K : PySem.W.Frag} {S : List Addr} {H : Hp} {a : Addr} {xs : List V} (h : FzL K S H a xs) : SqL K H a xs := by
  rcases h with ⟨o, h, _⟩ | h
  · exact .inl (.inr ⟨o, h⟩)
  · exact .inr h
section
variable {te ta tb : TE} {Γ : List Sl} {K : PySem.W.Frag} {a : Addr}
theorem ev_lenZ {i : Nat} {xs : List V} (h : Γ[i]? = some (.fz K a xs)) : EvD (tCB (rLenA K) (tCons (tVar i) tNil)) Γ (.int xs.length) := fun C B F H σ w g Q q => by
  obtain ⟨e, k⟩ := g.ok i _ h
  exact ⟨_, e, .inl ⟨a, xs, rfl, .inl k.sq, q _ F H (.refl w.sub) (.int _)⟩⟩
theorem ev_ixZ {i : Nat} {ns : List Int} {n : Nat} {m : Int} (h : Γ[i]? = some (.fz K a (ns.map V.int))) (hb : EvD tb Γ (.int (n : Int))) (e : ns[n]? = some m) : EvD (tOp (rIx K) (tVar i) tb) Γ (.int m) := fun C B F H σ w g Q q => by
  obtain ⟨e1, k⟩ := g.ok i _ h
  refine ⟨_, e1, hb C B F H σ w g _ fun v F1 H1 g1 r1 => ?_⟩
  obtain ⟨_, k2⟩ := (g.grow (F' := F1) (H' := H1) g1.weak).ok i _ h
  rw [r1.int_inv]
  exact .inl ⟨a, ns.map V.int, (n : Nat), .int m, rfl, rfl, k2.sq, atI_nat (by rw [List.getElem?_map, e]; rfl), q _ F1 H1 g1 (.int _)⟩
end
end Eh

namespace Eh
open PySem PySem.Spec PyProof.Rows L2
def t__law_pool (K : PySem.W.Frag) (w : World) (E : XK) : TS :=
  (tSeq (tAsg (tC (.int 1009)) (gName 1))
    (tSeq (tAsg (tLst tNil) (gName 2))
    (tSeq (tFor (iRng1 (tCons (tCB (rLenA K) (tCons (tVar 0) tNil)) tNil)) (gName 3) (tSeq (tAsg (tOp rModI (tCB rIntA (tCons (tOp (rAddA K) (tOp (rAddA K) (tOp (rAddA K) (tOp (rMulA K) (tVar 1) (tVar 1)) (tOp (rIx K) (tVar 0) (tVar 3))) (tVar 3)) (tC (.int 3))) tNil)) (tC (.int 2305843009213693951))) (gName 1))
    (tSeq (tAsg (tOp rModI (tCB rIntA (tCons (tOp (rAddA K) (tOp (rMulA K) (tVar 1) (tVar 1)) (tC (.int 77003))) tNil)) (tC (.int 2305843009213693951))) (gName 1))
    (tIfS (tTest (tOp rGeI (tOp (rIx K) (tVar 0) (tVar 3)) (tC (.int 1000000000000000000)))) (tDrop (tBM K "list" rAppend (tVar 2) (tCons (tOp (rIx K) (tVar 0) (tVar 3)) tNil))) tNext))))
    (tRet (tOp (rAddA K) (tLst (tCons (tVar 1) (tCons (tC (.int 0)) tNil))) (tVar 2))))))
def t__law_take (K : PySem.W.Frag) (w : World) (E : XK) : TS :=
  (tSeq (tIfS (tAnd (tTest (tOp (rEqA K) (tOp (rIx K) (tVar 0) (tC (.int 1))) (tC (.int 0)))) (tTest (tOp rGtI (tCB (rLenA K) (tCons (tVar 0) tNil)) (tC (.int 2))))) (tAsg (tBM K "list" rPopAt (tVar 0) (tCons (tC (.int 2)) tNil)) (gSub (tVar 0) (tC (.int 1)) rSetL)) tNext)
    (tSeq (tIfS (tTest (tOp rGtI (tOp (rIx K) (tVar 0) (tC (.int 1))) (tC (.int 0)))) (tSeq (tAsg (tOp rModI (tCB rIntA (tCons (tOp (rIx K) (tVar 0) (tC (.int 1))) tNil)) (tVar 1)) (gName 2))
    (tSeq (tAsg (tOp rDivI (tOp (rIx K) (tVar 0) (tC (.int 1))) (tVar 1)) (gSub (tVar 0) (tC (.int 1)) rSetL))
    (tRet (tVar 2)))) tNext)
    (tSeq (tAsg (tOp rModI (tCB rIntA (tCons (tOp (rAddA K) (tOp (rMulA K) (tOp (rIx K) (tVar 0) (tC (.int 0))) (tOp (rIx K) (tVar 0) (tC (.int 0)))) (tC (.int 90001))) tNil)) (tC (.int 2305843009213693951))) (gName 3))
    (tSeq (tAsg (tOp rModI (tCB rIntA (tCons (tOp (rAddA K) (tOp (rMulA K) (tVar 3) (tVar 3)) (tC (.int 40009))) tNil)) (tC (.int 2305843009213693951))) (gSub (tVar 0) (tC (.int 0)) rSetL))
    (tRet (tOp rModI (tCB rIntA (tCons (tOp rDivI (tOp (rIx K) (tVar 0) (tC (.int 0))) (tC (.int 1048576))) tNil)) (tVar 1)))))))

/-! ### the pool of the laws on talk: [state, rest, great..] -/
def plPI (p : Addr) (H : Hp) : Prop := ∃ (s t : Int) (g : List Int), H p = some (.lst (V.int s :: V.int t :: g.map V.int)) ∧ 0 ≤ s ∧ s < 2305843009213693951 ∧ 0 ≤ t ∧ (∀ x ∈ g, 0 < x) ∧ g.length ≤ 100
def plC (p : Addr) : Pc := ⟨[p], p, plPI p, fun H H' h ⟨s, t, g, e, r⟩ => ⟨s, t, g, (h p List.mem_cons_self).trans e, r⟩⟩
def Pl (C : Pc) : Prop := ∃ p, C = plC p
def sp__law_take : Sp := spD Pl (fun ds => ∃ n : Int, ds = [.int n] ∧ 0 < n ∧ n < 1073741824) fun ds d => ∃ n r : Int, ds = [.int n] ∧ d = .int r ∧ 0 ≤ r ∧ r < n
theorem wd_pool {p : Addr} {F H : Hp} {xs : List V} (w : Wd (plC p) F H) (h : plPI p (upd H p (.lst xs))) : Wd (plC p) F (upd H p (.lst xs)) ∧ Grow [p] F H F (upd H p (.lst xs)) := by
  have fp : F p = none := w.sF p List.mem_cons_self
  have np : ∀ a o, F a = some o → a ≠ p := fun a o e z => by subst z; rw [fp] at e; cases e
  have s : Sub F (upd H p (.lst xs)) := fun a o e => by rw [upd_ne (np a o e)]; exact w.sub a o e
  exact ⟨⟨s, h, w.sF, fun a ha => upd_th (w.sH a ha)⟩, ⟨Sub.refl F, s, fun a o n e => by
    rw [upd_ne (fun z => n (by rw [z]; exact List.mem_cons_self))]; exact e, fun a e => upd_th e, fun _ _ n => n⟩⟩
section
variable {K : PySem.W.Frag} {w : World} {E : XK}
theorem take_low {p : Addr} {H : Hp} {s t many : Int} {g : List Int} {D : Ends} (hm : 0 < many) (hm2 : many < 1073741824) (hp : H p = some (.lst (V.int s :: V.int t :: g.map V.int))) (hs : 0 ≤ s) (hs2 : s < 2305843009213693951) (ht : 0 ≤ t)
    (hq : ∀ (r s' t' : Int), 0 ≤ r → r < many → 0 ≤ s' → s' < 2305843009213693951 → 0 ≤ t' → D.rt (.int r) (upd H p (.lst (V.int s' :: V.int t' :: g.map V.int)))) :
    (tSeq (tIfS (tTest (tOp rGtI (tOp (rIx K) (tVar 0) (tC (.int 1))) (tC (.int 0)))) (tSeq (tAsg (tOp rModI (tCB rIntA (tCons (tOp (rIx K) (tVar 0) (tC (.int 1))) tNil)) (tVar 1)) (gName 2))
    (tSeq (tAsg (tOp rDivI (tOp (rIx K) (tVar 0) (tC (.int 1))) (tVar 1)) (gSub (tVar 0) (tC (.int 1)) rSetL))
    (tRet (tVar 2)))) tNext)
    (tSeq (tAsg (tOp rModI (tCB rIntA (tCons (tOp (rAddA K) (tOp (rMulA K) (tOp (rIx K) (tVar 0) (tC (.int 0))) (tOp (rIx K) (tVar 0) (tC (.int 0)))) (tC (.int 90001))) tNil)) (tC (.int 2305843009213693951))) (gName 3))
    (tSeq (tAsg (tOp rModI (tCB rIntA (tCons (tOp (rAddA K) (tOp (rMulA K) (tVar 3) (tVar 3)) (tC (.int 40009))) tNil)) (tC (.int 2305843009213693951))) (gSub (tVar 0) (tC (.int 0)) rSetL))
    (tRet (tOp rModI (tCB rIntA (tCons (tOp rDivI (tOp (rIx K) (tVar 0) (tC (.int 0))) (tC (.int 1048576))) tNil)) (tVar 1)))))) D (L2.start ["pool", "many", "found", "state"] [.ref p, .int many]) H := by
  have m0 : ∀ x : Int, 0 ≤ x % many := fun x => Int.emod_nonneg _ (by omega)
  have m1 : ∀ x : Int, x % many < many := fun x => Int.emod_lt_of_pos _ hm
  have z0 : ∀ x : Int, 0 ≤ x % 2305843009213693951 := fun x => Int.emod_nonneg _ (by decide)
  have z1 : ∀ x : Int, x % 2305843009213693951 < 2305843009213693951 := fun x => Int.emod_lt_of_pos _ (by decide)
  refine sx_if (ex_gt (ex_ixN 1 (ex_var rfl) ex_c hp rfl) ex_c) (fun ht0 => ?_) fun _ => ?_
  · refine sx_asg (ex_mod (ex_int (ex_ixN 1 (ex_var rfl) ex_c hp rfl)) (ex_var rfl) hm) ?_
    refine sx_setN 1 (ex_div (ex_ixN 1 (ex_var rfl) ex_c hp rfl) (ex_var rfl) ⟨hm, hm2⟩) (ex_var rfl) ex_c hp (by simp) ?_
    exact sx_ret (ex_var rfl) (hq _ _ _ (m0 _) (m1 _) hs hs2 (Int.ediv_nonneg ht (by omega)))
  · have b0 := z0 (s * s + 90001)
    have b1 := z1 (s * s + 90001)
    refine sx_asg (ex_mod (ex_int (ex_add (ex_mul (ex_ixN 0 (ex_var rfl) ex_c hp rfl) (ex_ixN 0 (ex_var rfl) ex_c hp rfl) (.inl ⟨by omega, by omega⟩)) ex_c)) ex_c (by decide)) ?_
    refine sx_setN 0 (ex_mod (ex_int (ex_add (ex_mul (ex_var rfl) (ex_var rfl) (.inl ⟨by omega, by omega⟩)) ex_c)) ex_c (by decide)) (ex_var rfl) ex_c hp (by simp) ?_
    exact sx_ret (ex_mod (ex_int (ex_div (ex_ixN 0 (ex_var rfl) ex_c upd_same rfl) ex_c ⟨by decide, by decide⟩)) (ex_var rfl) hm) (hq _ _ _ (m0 _) (m1 _) (z0 _) (z1 _) ht)
theorem pure_take (vs : List V) (H : Hp) (Q : VK) (E : XK) (h : sp__law_take vs H Q E) : t__law_take K w E { nx := fun _ H' => Q .non H', rt := Q } (L2.start ["pool", "many", "found", "state"] vs) H := by
  obtain ⟨C, F, ws, ds, ⟨p, rfl⟩, rfl, wd, r, ⟨many, rfl, hm, hm2⟩, hq⟩ := h
  cases r with
  | cons r1 r2 =>
    cases r2
    rw [r1.int_inv]
    obtain ⟨s, t, g, hp, hs, hs2, ht, hg, hgl⟩ := wd.pi
    have fin : ∀ (r s' t' : Int) (g' : List Int), (∀ x ∈ g', 0 < x) → g'.length ≤ 100 → 0 ≤ r → r < many → 0 ≤ s' → s' < 2305843009213693951 → 0 ≤ t' → Q (.int r) (upd H p (.lst (V.int s' :: V.int t' :: g'.map V.int))) := fun r s' t' g' h1 h2 a b c d e => by
      obtain ⟨w2, g2⟩ := wd_pool (xs := V.int s' :: V.int t' :: g'.map V.int) wd ⟨s', t', g', upd_same, c, d, e, h1, h2⟩
      exact hq _ F _ (.int r) g2 w2 ⟨many, r, rfl, rfl, a, b⟩ (.int r)
    refine sx_if (ex_and (ex_eq (ex_ixN 1 (ex_var rfl) ex_c hp rfl) ex_c) (fun _ => ex_gt (ex_len (ex_var rfl) hp) ex_c) fun _ => rfl) (fun hb => ?_) fun hb => ?_
    · rw [Bool.and_eq_true] at hb
      have h2 := of_decide_eq_true hb.2
      cases g with
      | nil => exact absurd h2 (show ¬ ((2 : Int) < ((0 + 1 + 1 : Nat) : Int)) by decide)
      | cons x g =>
        refine sx_setN 1 (ex_pop (k := 2) (ex_var rfl) ex_c hp hp rfl (by simp at hgl ⊢; omega)) (ex_var rfl) ex_c upd_same (by simp [List.eraseIdx]) ?_
        refine take_low (g := g) (s := s) (t := x) hm hm2 upd_same hs hs2 (Int.le_of_lt (hg x List.mem_cons_self)) fun r s' t' a b c d e => ?_
        rw [upd_upd, upd_upd]
        exact fin r s' t' g (fun y hy => hg y (List.mem_cons_of_mem _ hy)) (by simp at hgl; omega) a b c d e
    · exact take_low (g := g) (s := s) (t := t) hm hm2 hp hs hs2 ht fun r s' t' a b c d e => fin r s' t' g hg hgl a b c d e
/-! ### its making -/
def sp__law_pool (K : PySem.W.Frag) : Sp := fun vs H Q _ => ∃ (a : Addr) (ns : List Int), vs = [.ref a] ∧ FzL K [] H a (ns.map V.int) ∧ ns.length ≤ 63 ∧
  ∀ p H', H p = none → (∀ b o, H b = some o → H' b = some o) → plPI p H' → Q (.ref p) H'
theorem big_pos {x : Int} (h : 1000000000000000000 ≤ x) : 0 < x := by omega
theorem pure_pool (vs : List V) (H : Hp) (Q : VK) (E : XK) (h : sp__law_pool K vs H Q E) : t__law_pool K w E { nx := fun _ H' => Q .non H', rt := Q } (L2.start ["script", "state", "great", "k"] vs) H := by
  obtain ⟨a, ns, rfl, hz, hl, hq⟩ := h
  let F0 : Hp := fun _ => none
  have s0 : Sub F0 H := fun _ _ e => nomatch e
  have z0 : ∀ x : Int, 0 ≤ x % 2305843009213693951 := fun x => Int.emod_nonneg _ (by decide)
  have z1 : ∀ x : Int, x % 2305843009213693951 < 2305843009213693951 := fun x => Int.emod_lt_of_pos _ (by decide)
  let xs := ns.map V.int
  have main : ∀ D : Ends, RetN pc0 H F0 D (fun es => ∃ (s : Int) (g : List Int), es = (s :: 0 :: g).map .int ∧ 0 ≤ s ∧ s < 2305843009213693951 ∧ (∀ x ∈ g, 0 < x) ∧ g.length ≤ 63) →
      At pc0 H F0 [.fz K a (ns.map V.int), .no, .no, .no] (t__law_pool K w E D) := fun D hr => by
    refine at_asg ev_int (at_asgN (en_lst ea_nil (by decide)) ?_)
    refine at_forR (xs := List.range ns.length) (enc := fun i : Nat => .int i) (vs := [3]) (fun i Γ => ∃ (s : Int) (g : List Int) (z : Sl), Γ = [.fz K a (ns.map V.int), .dat (.int s), .own (g.map .int), z] ∧ 0 ≤ s ∧ s < 2305843009213693951 ∧ (∀ x ∈ g, 0 < x) ∧ g.length ≤ i)
      ⟨1009, [], .no, rfl, by decide, by decide, by simp, Nat.le_refl _⟩ (if_rngN ((ev_lenZ rfl).is (by rw [List.length_map])) (by omega)) (fun i Γ => Γ.set 3 (.dat (.int i)))
      (fun i x Γ _ _ => tg_name List.mem_cons_self) ?_ ?_
    · rintro i x Γ hx ⟨s, g, z, rfl, h1, h2, h3, h4⟩ F1 H1 gr D' e1 e2 e3 e4
      have hi : i < ns.length := by
        have := (List.getElem?_eq_some_iff.mp hx).1
        simpa using this
      rw [List.getElem?_range hi] at hx
      cases hx
      obtain ⟨m, hm⟩ : ∃ m, ns[i]? = some m := ⟨_, List.getElem?_eq_getElem hi⟩
      refine at_asg (ev_mod (ev_cint (ev_add (ev_add (ev_add (ev_mul (ev_var rfl) (ev_var rfl) (.inl ⟨by omega, by omega⟩)) (ev_ixZ rfl (ev_var rfl) hm)) (ev_var rfl)) ev_int)) ev_int (by decide)) ?_
      have b0 := z0 (s * s + m + (i : Int) + 3)
      have b1 := z1 (s * s + m + (i : Int) + 3)
      refine at_asg (ev_mod (ev_cint (ev_add (ev_mul (ev_var rfl) (ev_var rfl) (.inl ⟨by omega, by omega⟩)) ev_int)) ev_int (by decide)) ?_
      refine at_if (et_test (ev_ge (ev_ixZ rfl (ev_var rfl) hm) ev_int)) (fun hb => ?_) fun hb => ?_
      · have hb' := of_decide_eq_true hb
        refine at_append (ds := g.map .int) rfl (by rw [List.length_map]; omega) (ev_ixZ rfl (ev_var rfl) hm) (e2 _ ⟨((s * s + m + (i : Int) + 3) % 2305843009213693951 * ((s * s + m + (i : Int) + 3) % 2305843009213693951) + 77003) % 2305843009213693951, g ++ [m], .dat (.int i), by rw [List.map_append]; rfl, z0 _, z1 _, fun x hx => ?_, by rw [List.length_append]; exact Nat.succ_le_succ h4⟩)
        · rcases List.mem_append.mp hx with h | h
          · exact h3 x h
          · rw [List.mem_singleton.mp h]; omega
      · exact at_next (e2 _ ⟨_, g, _, rfl, z0 _, z1 _, h3, Nat.le_succ_of_le h4⟩)
    · rintro Γ ⟨s, g, z, rfl, h1, h2, h3, h4⟩
      rw [List.length_range] at h4
      refine at_retN hr (en_cat (en_lst (ea_cons (ev_var rfl) (ea_cons ev_int ea_nil)) (by simp)).rl (rl_own rfl) (by simp; omega)) ⟨s, g, rfl, h1, h2, h3, by omega⟩
  refine main _ ?_ F0 H _ (wd0 s0) (.refl s0) ⟨rfl, ?_, ?_⟩
  · rintro F H' p us es wd gr hb hf _ hp ra ⟨s, g, rfl, h1, h2, h3, h4⟩
    exact hq p H' hb (fun b o e => gr.hh b o (by exact List.not_mem_nil) e) ⟨s, 0, g, by rw [hp, ra.ints]; rfl, h1, h2, Int.le_refl _, h3, by omega⟩
  · intro i s e
    match i, e with
    | 0, e => cases e; exact ⟨rfl, hz⟩
    | 1, e => cases e; trivial
    | 2, e => cases e; trivial
    | 3, e => cases e; trivial
    | n + 4, e => cases e
  · intro i j ds es p e
    match i, e with
    | 0, e => cases e
    | 1, e => cases e
    | 2, e => cases e
    | 3, e => cases e
    | n + 4, e => cases e
end
def sp_law (K : PySem.W.Frag) : Sp := fun vs H Q _ => ∃ (a : Addr) (ns : List Int), vs = [.ref a] ∧ FzL K [] H a (ns.map V.int) ∧ ns.length ≤ 63 ∧ ∀ H', Q (.bl true) H'
theorem fz_of {K : PySem.W.Frag} {H : Hp} {a : Addr} {xs : List V} (o : Only H) (h : SqL K H a xs) : FzL K [] H a xs := by
  rcases h with (h | ⟨u, h⟩) | h
  · rcases o a with z | ⟨u, ys, z⟩
    · rw [h] at z; cases z
    · rw [h] at z; cases z
  · exact .inl ⟨u, h, List.not_mem_nil⟩
  · exact .inr h

section
variable {K : PySem.W.Frag} {w : World} {E : XK}
/-- the law's body behind its first statement -/
theorem law_pool {rest : TS} {N : List Str} {a : Addr} {ns : List Int} {H : Hp} {Q : VK} (hN : 2 ≤ N.length) (hz : FzL K [] H a (ns.map V.int)) (hl : ns.length ≤ 63) (hq : ∀ H', Q (.bl true) H')
    (hb : ∀ (p : Addr) (B : Hp) (D : Ends), Pl (plC p) → RetOk (plC p) B (fun _ => none) D (fun d => d = .bool true) → At (plC p) B (fun _ => none) (.no :: .pool :: List.replicate (N.length - 2) .no) (rest D)) :
    tSeq (tAsg (tCall (sp__law_pool K) [] E (tCons (tVar 0) tNil)) (gName 1)) rest { nx := fun _ H' => Q .non H', rt := Q } (L2.start N [.ref a]) H := by
  refine ⟨.ref a, rfl, a, ns, rfl, hz, hl, fun p H' hn hsub hpi => ?_⟩
  let F0 : Hp := fun _ => none
  have hwd : Wd (plC p) F0 H' := ⟨(fun _ _ e => nomatch e), hpi, fun _ _ => rfl, fun b hb => by
    rw [List.mem_singleton.mp hb]
    obtain ⟨s, t, g, e, _⟩ := hpi
    rw [e]; exact fun z => nomatch z⟩
  have gm : Gm (plC p) H' F0 H' ((L2.start N [.ref a]).set 1 (some (.ref p))) (.no :: .pool :: List.replicate (N.length - 2) .no) := by
    have hlen : (L2.start N [.ref a]).length = N.length := by unfold L2.start; simp; omega
    refine ⟨by rw [List.length_set, hlen]; simp; omega, fun i s e => ?_, fun i j ds es q e => ?_⟩
    · match i, e with
      | 0, e => cases e; trivial
      | 1, e =>
        cases e
        show _ = _
        rw [List.getElem?_set, if_pos rfl, if_pos (by rw [hlen]; omega)]; rfl
      | n + 2, e =>
        rw [List.getElem?_cons_succ, List.getElem?_cons_succ, List.getElem?_replicate] at e
        split at e
        · cases e; trivial
        · cases e
    · match i, e with
      | 0, e => cases e
      | 1, e => cases e
      | n + 2, e =>
        rw [List.getElem?_cons_succ, List.getElem?_cons_succ, List.getElem?_replicate] at e
        split at e <;> cases e
  exact hb p H' { nx := fun _ H' => Q .non H', rt := Q } ⟨p, rfl⟩ (fun F H2 v d _ _ e r => by
    subst e
    rw [r.bl_inv]
    exact hq H2) F0 H' _ hwd (.refl hwd.sub) gm
end
end Eh

namespace Eh
open PySem PySem.Spec PyProof.Rows L2
def t_is_integer (K : PySem.W.Frag) (w : World) (E : XK) : TS :=
  (tRet (tAndV (tCB (rIsi K) (tCons (tVar 0) (tCons (tC (.ty "int")) tNil))) (tNotV (tCB (rIsi K) (tCons (tVar 0) (tCons (tC (.ty "bool")) tNil))))))
def t_is_from_to (K : PySem.W.Frag) (w : World) (sp_is_integer : Sp) (E : XK) : TS :=
  (tRet (tAndV (tCall sp_is_integer [] E (tCons (tVar 0) tNil)) (tChain rLeI rLeI (tVar 1) (tVar 0) (tVar 2))))
def t_check_number (K : PySem.W.Frag) (w : World) (C_BadNumber : Addr) (sp_is_from_to : Sp) (E : XK) : TS :=
  (tIfS (tNot (tB (tCall sp_is_from_to [] E (tCons (tVar 0) (tCons (tVar 1) (tCons (tVar 2) tNil)))))) (tRaiseC E C_BadNumber) tNext)
def t_are_pairs (K : PySem.W.Frag) (w : World) (sp_is_from_to : Sp) (E : XK) : TS :=
  (tSeq (tIfS (tOr (tNot (tB (tCB (rIsi K) (tCons (tVar 0) (tCons (tC (.ty "tuple")) tNil))))) (tNot (tB (tCB (rAll K) (tCons (tLc (iSeq K (tVar 0)) (gName 2) tYes (tAndV (tCB (rIsi K) (tCons (tVar 2) (tCons (tC (.ty "tuple")) tNil))) (tOp (rEqA K) (tCB (rLenA K) (tCons (tVar 2) tNil)) (tC (.int 2)))) [2]) tNil))))) (tRet (tC (.bl false))) tNext)
    (tRet (tCB (rAll K) (tCons (tLc (iSeq K (tVar 0)) (gTup K 2 (gCons (gName 3) (gCons (gName 4) gNil))) tYes (tAndV (tCall sp_is_from_to [] E0 (tCons (tVar 3) (tCons (tC (.int 0)) (tCons (tOp rSubI (tVar 1) (tC (.int 1))) tNil)))) (tAndV (tCall sp_is_from_to [] E0 (tCons (tVar 4) (tCons (tC (.int 0)) (tCons (tOp rSubI (tVar 1) (tC (.int 1))) tNil)))) (tOp rLtI (tVar 3) (tVar 4)))) [3, 4]) tNil))))
def t_check_calls (K : PySem.W.Frag) (w : World) (C_BadCalls : Addr) (sp_are_pairs : Sp) (sp_check_number : Sp) (E : XK) : TS :=
  (tSeq (tDrop (tCall sp_check_number [] E (tCons (tVar 0) (tCons (tC (.int 2)) (tCons (tC (.int 6)) tNil)))))
    (tIfS (tOr (tNot (tB (tCall sp_are_pairs [] E (tCons (tVar 1) (tCons (tVar 0) tNil))))) (tTest (tOp rGtI (tCB (rLenA K) (tCons (tVar 1) tNil)) (tC (.int 40))))) (tRaiseC E C_BadCalls) tNext))
def t__law_same (K : PySem.W.Frag) (w : World) (sp__law_same : Sp) (E : XK) : TS :=
  (tSeq (tIfS (tTest (tOp rIsN (tVar 1) (tC .non))) (tRet (tOp rIsN (tVar 0) (tC .non))) tNext)
    (tSeq (tIfS (tB (tCB (rIsi K) (tCons (tVar 1) (tCons (tC (.ty "bool")) tNil)))) (tRet (tAndV (tCB (rIsi K) (tCons (tVar 0) (tCons (tC (.ty "bool")) tNil))) (tOp (rEqA K) (tVar 0) (tVar 1)))) tNext)
    (tSeq (tIfS (tB (tCB (rIsi K) (tCons (tVar 1) (tCons (tC (.ty "int")) tNil)))) (tRet (tAndV (tCB (rIsi K) (tCons (tVar 0) (tCons (tC (.ty "int")) tNil))) (tAndV (tNotV (tCB (rIsi K) (tCons (tVar 0) (tCons (tC (.ty "bool")) tNil)))) (tOp (rEqA K) (tVar 0) (tVar 1))))) tNext)
    (tSeq (tIfS (tOr (tNot (tB (tCB (rIsi K) (tCons (tVar 0) (tCons (tC (.ty "tuple")) tNil))))) (tTest (tOp (rNeA K) (tCB (rLenA K) (tCons (tVar 0) tNil)) (tCB (rLenA K) (tCons (tVar 1) tNil))))) (tRet (tC (.bl false))) tNext)
    (tSeq (tFor (iRng1 (tCons (tCB (rLenA K) (tCons (tVar 1) tNil)) tNil)) (gName 2) (tIfS (tNot (tB (tCall sp__law_same [] E (tCons (tOp (rIx K) (tVar 0) (tVar 2)) (tCons (tOp (rIx K) (tVar 1) (tVar 2)) tNil))))) (tRet (tC (.bl false))) tNext))
    (tRet (tC (.bl true))))))))

/-! ### data that == can be asked of -/
def ShN (n : Nat) (d : PyData) : Prop := PyData.canLay0 d = true ∧ PyData.depth d ≤ n
theorem ShN.up {n m : Nat} {d : PyData} (h : ShN n d) (k : n ≤ m) : ShN m d := ⟨h.1, Nat.le_trans h.2 k⟩
theorem shN_int (i : Int) {n : Nat} : ShN n (.int i) := ⟨rfl, Nat.zero_le _⟩
theorem shN_bl (i : Bool) {n : Nat} : ShN n (.bool i) := ⟨rfl, Nat.zero_le _⟩
theorem shN_non {n : Nat} : ShN n .none := ⟨rfl, Nat.zero_le _⟩
theorem shAll {n : Nat} : ∀ {ds : List PyData}, (∀ d ∈ ds, ShN n d) → PyData.canLayAll0 ds = true ∧ PyData.depthAll ds ≤ n
  | [], _ => ⟨rfl, Nat.zero_le _⟩
  | d :: ds, h => by
    have a := h d List.mem_cons_self
    have b := shAll fun e he => h e (List.mem_cons_of_mem _ he)
    exact ⟨by show (PyData.canLay0 d && PyData.canLayAll0 ds) = true; rw [a.1, b.1]; rfl, Nat.max_le.mpr ⟨a.2, b.2⟩⟩
theorem shN_list {n : Nat} {ds : List PyData} (h : ∀ d ∈ ds, ShN n d) : ShN (n + 1) (.list ds) := ⟨(shAll h).1, Nat.succ_le_succ (shAll h).2⟩
theorem shN_tup {n : Nat} {ds : List PyData} (h : ∀ d ∈ ds, ShN n d) : ShN (n + 1) (.tuple ds) := ⟨(shAll h).1, Nat.succ_le_succ (shAll h).2⟩
theorem ShN.sh {n : Nat} {d : PyData} (h : ShN n d) (k : n ≤ 64) : SeqAt.shaped d = true := by
  unfold SeqAt.shaped
  rw [h.1, decide_eq_true (Nat.le_trans h.2 k)]; rfl
/-! ### comprehensions in all, any -/
section
variable {te ta tb : TE} {Γ : List Sl} {K : PySem.W.Frag} {wi : TI} {g : TG} {tt : TT} {vs : List Nat}
theorem ev_allC {α : Type} {xs : List α} {enc : α → PyData} {p : α → Bool} {Γx : α → List Sl} (hi : IterH wi Γ (xs.map enc)) (hz : xs.length ≤ 100000) (hg : ∀ x ∈ xs, TgD g vs (wipeG Γ vs) (enc x) (Γx x))
    (he : ∀ x ∈ xs, EvD te (Γx x) (.bool (p x))) : EvD (tCB (rAll K) (tCons (tLc wi g tYes te vs) tNil)) Γ (.bool (xs.all p)) := by
  have h := ev_all (K := K) (bs := xs.map p) ((en_lcM hi hz hg he).rl |> fun h => by rw [List.map_map]; exact h)
  rw [List.all_map] at h
  exact h
theorem ev_anyC {α : Type} {xs : List α} {enc : α → PyData} {p : α → Bool} {Γx : α → List Sl} (hi : IterH wi Γ (xs.map enc)) (hz : xs.length ≤ 100000) (hg : ∀ x ∈ xs, TgD g vs (wipeG Γ vs) (enc x) (Γx x))
    (he : ∀ x ∈ xs, EvD te (Γx x) (.bool (p x))) : EvD (tCB (rAny K) (tCons (tLc wi g tYes te vs) tNil)) Γ (.bool (xs.any p)) := by
  have h := ev_any (K := K) (bs := xs.map p) ((en_lcM hi hz hg he).rl |> fun h => by rw [List.map_map]; exact h)
  rw [List.any_map] at h
  exact h
theorem ev_sumC {α : Type} {xs : List α} {enc : α → PyData} {p : α → Int} {Γx : α → List Sl} (hi : IterH wi Γ (xs.map enc)) (hz : xs.length ≤ 100000) (hg : ∀ x ∈ xs, TgD g vs (wipeG Γ vs) (enc x) (Γx x))
    (he : ∀ x ∈ xs, EvD te (Γx x) (.int (p x))) : EvD (tCB (rSum K) (tCons (tLc wi g tYes te vs) tNil)) Γ (.int (xs.map p).sum) :=
  ev_sumL (ns := xs.map p) ((en_lcM hi hz hg he).rl |> fun h => by rw [List.map_map]; exact h)
/-- data as they stand -/
theorem ih_seqD {ds : List PyData} (h : RdS te Γ ds) : IterH (iSeq K te) Γ (ds.map id) := by rw [List.map_id]; exact ih_seq h
theorem if_lstD {ds : List PyData} (h : EvD te Γ (.list ds)) : IterF (iSeq K te) Γ (ds.map id) := by rw [List.map_id]; exact if_lst h
theorem if_tupD {ds : List PyData} (h : EvD te Γ (.tuple ds)) : IterF (iSeq K te) Γ (ds.map id) := by rw [List.map_id]; exact if_tup h
end
/-! ### looks -/
def btw (d : PyData) (a b : Int) : Bool := match d with | .int i => decide (a ≤ i) && decide (i ≤ b) | _ => false
def fromTo (d : PyData) (a b : Int) : Bool := isIntD d && btw d a b
def R_is_integer (ds : List PyData) (o : Out) : Prop := ∃ d, ds = [d] ∧ o = .ok (.bool (isIntD d))
def R_is_from_to (ds : List PyData) (o : Out) : Prop := ∃ d a b, ds = [d, .int a, .int b] ∧ o = .ok (.bool (fromTo d a b))
def R_check_number (C : Addr) (ds : List PyData) (o : Out) : Prop := ∃ d a b, ds = [d, .int a, .int b] ∧ o = if fromTo d a b = true then .ok .none else .err C none
section
variable {K : PySem.W.Frag} {w : World} {C C' : Addr}
theorem pure_is_integer (vs : List V) (H : Hp) (Q : VK) (E : XK) (h : spR R_is_integer vs H Q E) : t_is_integer K w E { nx := fun _ H' => Q .non H', rt := Q } (L2.start ["value"] vs) H :=
  spR_body (N := ["value"]) (t := fun E => t_is_integer K w E) h fun ds o hR B F0 D E hr hx hn => by
    obtain ⟨d, rfl, rfl⟩ := hR
    refine at_ret hr ((ev_andV (ev_isInt (ev_var rfl)) fun _ => ev_notV (ev_isBl (ev_var rfl))).is (y := .bool (isIntD d)) ?_) rfl
    cases d <;> rfl
theorem pure_is_from_to (vs : List V) (H : Hp) (Q : VK) (E : XK) (h : spR R_is_from_to vs H Q E) : t_is_from_to K w (spR R_is_integer) E { nx := fun _ H' => Q .non H', rt := Q } (L2.start ["value", "least", "most"] vs) H :=
  spR_body (N := ["value", "least", "most"]) (t := fun E => t_is_from_to K w (spR R_is_integer) E) h fun ds o hR B F0 D E hr hx hn => by
    obtain ⟨d, a, b, rfl, rfl⟩ := hR
    refine at_ret hr (ev_andV (b := btw d a b) (ev_call (ea_cons (ev_var rfl) ea_nil) ⟨d, rfl, rfl⟩) fun hd => ?_) rfl
    cases d with
    | int i => exact ev_chain (ev_var rfl) (ev_var rfl) rv_le (fun _ => ev_var rfl) fun _ => rv_le
    | _ => cases hd
theorem pure_check_number (vs : List V) (H : Hp) (Q : VK) (E : XK) (h : spR (R_check_number C) vs H Q E) : t_check_number K w C (spR R_is_from_to) E { nx := fun _ H' => Q .non H', rt := Q } (L2.start ["value", "least", "most"] vs) H :=
  spR_body (N := ["value", "least", "most"]) (t := fun E => t_check_number K w C (spR R_is_from_to) E) h fun ds o hR B F0 D E hr hx hn => by
    obtain ⟨d, a, b, rfl, rfl⟩ := hR
    refine at_if (et_not (et_B (ev_call (ea_cons (ev_var rfl) (ea_cons (ev_var rfl) (ea_cons (ev_var rfl) ea_nil))) ⟨d, a, b, rfl, rfl⟩))) (fun hb => ?_) fun hb => ?_
    · have e : fromTo d a b = false := by simpa using hb
      rw [e] at hx
      exact at_raise hx rfl
    · have e : fromTo d a b = true := by simpa using hb
      rw [e] at hn
      exact at_next (hn rfl _)
end
/-! ### rows of pairs -/
def tupOf : PyData → List PyData | .tuple xs => xs | _ => []
def lenIs (d : PyData) (n : Nat) : Bool := decide (((tupOf d).length : Int) = n)
def isPair (d : PyData) : Bool := isTupD d && decide (((tupOf d).length : Int) = 2)
def ltD (a b : PyData) : Bool := match a, b with | .int i, .int j => decide (i < j) | _, _ => false
def fstD (d : PyData) : PyData := (tupOf d).getD 0 .none
def sndD (d : PyData) : PyData := (tupOf d).getD 1 .none
def okPair (n : Int) (d : PyData) : Bool := fromTo (fstD d) 0 (n - 1) && (fromTo (sndD d) 0 (n - 1) && ltD (fstD d) (sndD d))
def arePairs (d : PyData) (n : Int) : Bool := isTupD d && (tupOf d).all isPair && (tupOf d).all (okPair n)
/-- tuples that are not too long -/
def TupLe (z : Nat) (d : PyData) : Prop := (tupOf d).length ≤ z
theorem tup_eta {d : PyData} (h : isTupD d = true) : d = .tuple (tupOf d) := by cases d <;> first | rfl | cases h
theorem int_of {d : PyData} (h : isIntD d = true) : ∃ i, d = .int i := by cases d <;> first | exact ⟨_, rfl⟩ | cases h
def R_are_pairs (ds : List PyData) (o : Out) : Prop := ∃ d n, ds = [d, .int n] ∧ TupLe 100000 d ∧ o = .ok (.bool (arePairs d n))
def okCalls (d : PyData) (n : Int) : Bool := arePairs d n && decide (((tupOf d).length : Int) ≤ 40)
def intOf : PyData → Int | .int i => i | _ => 0
def R_check_calls (C C' : Addr) (ds : List PyData) (o : Out) : Prop := ∃ n d, ds = [n, d] ∧ TupLe 100000 d ∧
  o = if fromTo n 2 6 = true then (if okCalls d (intOf n) = true then .ok .none else .err C' none) else .err C none
section
variable {K : PySem.W.Frag} {w : World} {C C' : Addr}
theorem pair_of {d : PyData} (h : isPair d = true) : d = .tuple [fstD d, sndD d] := by
  unfold isPair at h
  rw [Bool.and_eq_true] at h
  have e := tup_eta h.1
  have l := of_decide_eq_true h.2
  unfold fstD sndD
  generalize tupOf d = xs at *
  match xs, l with
  | [x, y], _ => exact e
  | [], l => exact absurd l (by simp)
  | [_], l => exact absurd l (by simp)
  | _ :: _ :: _ :: l, h => simp at h; omega
theorem pure_are_pairs (vs : List V) (H : Hp) (Q : VK) (E : XK) (h : spR R_are_pairs vs H Q E) : t_are_pairs K w (spR R_is_from_to) E { nx := fun _ H' => Q .non H', rt := Q } (L2.start ["value", "people", "pair", "i", "j"] vs) H :=
  spR_body (N := ["value", "people", "pair", "i", "j"]) (t := fun E => t_are_pairs K w (spR R_is_from_to) E) h fun ds o hR B F0 D E hr hx hn => by
    obtain ⟨d, n, rfl, hz, rfl⟩ := hR
    refine at_seq (at_if (b := !isTupD d || !((tupOf d).all isPair)) (et_or (et_not (et_B (ev_isTup (ev_var rfl)))) fun hb => ?_) (fun hb => ?_) fun hb => ?_)
    · have ht : isTupD d = true := by simpa using hb
      have hv : EvD (tVar 0) (startG 5 [d, .int n]) (.tuple (tupOf d)) := (ev_var rfl).is (tup_eta ht)
      refine et_not (et_B (ev_allC (Γx := fun x => [.dat d, .dat (.int n), .dat x, .no, .no]) (ih_seqD hv.rt) hz (fun x _ => tg_name List.mem_cons_self) fun x _ => ?_))
      refine ev_andV (ev_isTup (ev_var rfl)) fun hx => ?_
      exact ev_eqI (ev_len ((ev_var rfl : EvD _ _ x).is (tup_eta hx)).rt) ev_int
    · refine at_ret hr ev_bl ?_
      have e : arePairs d n = false := by
        unfold arePairs
        cases h1 : isTupD d <;> cases h2 : (tupOf d).all isPair <;> simp_all
      rw [e]
    · have ht : isTupD d = true := by cases h1 : isTupD d <;> simp_all
      have hp : (tupOf d).all isPair = true := by cases h1 : (tupOf d).all isPair <;> simp_all
      have hv : EvD (tVar 0) (startG 5 [d, .int n]) (.tuple (tupOf d)) := (ev_var rfl).is (tup_eta ht)
      refine at_ret hr (ev_allC (p := okPair n) (Γx := fun x => [.dat d, .dat (.int n), .no, .dat (fstD x), .dat (sndD x)]) (ih_seqD hv.rt) hz (fun x hx => ?_) fun x hx => ?_) ?_
      · show TgD _ _ _ x _
        rw [pair_of (List.all_eq_true.mp hp x hx)]
        exact tg_pair (by simp) (by simp)
      · refine ev_andV (ev_call (ea_cons (ev_var rfl) (ea_cons ev_int (ea_cons (ev_sub (ev_var rfl) ev_int) ea_nil))) ⟨_, _, _, rfl, rfl⟩) fun h1 => ?_
        refine ev_andV (ev_call (ea_cons (ev_var rfl) (ea_cons ev_int (ea_cons (ev_sub (ev_var rfl) ev_int) ea_nil))) ⟨_, _, _, rfl, rfl⟩) fun h2 => ?_
        obtain ⟨i, ei⟩ := int_of (Bool.and_eq_true_iff.mp h1).1
        obtain ⟨j, ej⟩ := int_of (Bool.and_eq_true_iff.mp h2).1
        refine (ev_lt (i := i) (j := j) ((ev_var rfl).is ei) ((ev_var rfl).is ej)).is ?_
        rw [ei, ej]; rfl
      · unfold arePairs
        rw [ht, hp]; rfl
theorem pure_check_calls (vs : List V) (H : Hp) (Q : VK) (E : XK) (h : spR (R_check_calls C C') vs H Q E) : t_check_calls K w C' (spR R_are_pairs) (spR (R_check_number C)) E { nx := fun _ H' => Q .non H', rt := Q } (L2.start ["n", "calls"] vs) H :=
  spR_body (N := ["n", "calls"]) (t := fun E => t_check_calls K w C' (spR R_are_pairs) (spR (R_check_number C)) E) h fun ds o hR B F0 D E hr hx hn => by
    obtain ⟨n, d, rfl, hz, rfl⟩ := hR
    cases hf : fromTo n 2 6 with
    | false =>
      rw [hf] at hx
      exact at_seq (at_dropX hx (ex_call (c := C) (f := none) (ea_cons (ev_var rfl) (ea_cons ev_int (ea_cons ev_int ea_nil))) ⟨n, 2, 6, rfl, by rw [hf]; rfl⟩) rfl)
    | true =>
      rw [hf, if_pos rfl] at hx hn
      obtain ⟨i, ei⟩ := int_of (Bool.and_eq_true_iff.mp hf).1
      subst ei
      refine at_seq (at_drop (ev_call (d := .none) (ea_cons (ev_var rfl) (ea_cons ev_int (ea_cons ev_int ea_nil))) ⟨_, 2, 6, rfl, by rw [hf]; rfl⟩) ?_)
      refine at_if (b := !arePairs d i || decide (40 < ((tupOf d).length : Int))) (et_or (et_not (et_B (ev_call (ea_cons (ev_var rfl) (ea_cons (ev_var rfl) ea_nil)) ⟨d, i, rfl, hz, rfl⟩))) fun hb => ?_) (fun hb => ?_) fun hb => ?_
      · have ht : isTupD d = true := by
          unfold arePairs at hb
          cases h1 : isTupD d <;> simp_all
        exact et_test (ev_gt (ev_len ((ev_var rfl).is (tup_eta ht)).rt) ev_int)
      · have e : okCalls d i = false := by
          unfold okCalls
          cases h1 : arePairs d i with
          | false => rfl
          | true =>
            rw [h1] at hb
            have := of_decide_eq_true (p := 40 < ((tupOf d).length : Int)) (by simpa using hb)
            rw [decide_eq_false (by omega)]; rfl
        rw [show intOf (.int i) = i from rfl, e] at hx
        exact at_raise hx rfl
      · have e : okCalls d i = true := by
          unfold okCalls
          cases h1 : arePairs d i with
          | false => rw [h1] at hb; cases hb
          | true =>
            rw [h1] at hb
            have := of_decide_eq_false (p := 40 < ((tupOf d).length : Int)) (by simpa using hb)
            rw [decide_eq_true (by omega)]; rfl
        rw [show intOf (.int i) = i from rfl, e] at hn
        exact at_next (hn rfl _)
end
end Eh

namespace Eh
open PySem
/-! ### who knows what: the plain law -/
abbrev Rel := Nat → Nat → Bool
abbrev Cs := List (Nat × Nat)
def k0 : Rel := fun p k => decide (p = k)
def stp (r : Rel) (c : Nat × Nat) : Rel := fun p k => if p = c.1 ∨ p = c.2 then r c.1 k || r c.2 k else r p k
def kn (cs : Cs) : Rel := cs.foldl stp k0
def Same (N : Nat) (r s : Rel) : Prop := ∀ p < N, ∀ k < N, r p k = s p k
def sameB (N : Nat) (r s : Rel) : Bool := (List.range N).all fun p => (List.range N).all fun k => r p k == s p k
theorem sameB_iff {N : Nat} {r s : Rel} : sameB N r s = true ↔ Same N r s := by
  unfold sameB Same
  simp [List.all_eq_true]
def InN (N : Nat) (cs : Cs) : Prop := ∀ c ∈ cs, c.1 < N ∧ c.2 < N
theorem Same.refl (N : Nat) (r : Rel) : Same N r r := fun _ _ _ _ => rfl
theorem Same.symm {N : Nat} {r s : Rel} (h : Same N r s) : Same N s r := fun p hp k hk => (h p hp k hk).symm
theorem Same.trans {N : Nat} {r s t : Rel} (h : Same N r s) (g : Same N s t) : Same N r t := fun p hp k hk => (h p hp k hk).trans (g p hp k hk)
theorem Same.stp {N : Nat} {r s : Rel} {c : Nat × Nat} (h : Same N r s) (hc : c.1 < N ∧ c.2 < N) : Same N (stp r c) (stp s c) := fun p hp k hk => by
  unfold Eh.stp
  rw [h _ hc.1 k hk, h _ hc.2 k hk, h p hp k hk]
theorem Same.fold {N : Nat} {cs : Cs} (hc : InN N cs) : ∀ {r s : Rel}, Same N r s → Same N (cs.foldl Eh.stp r) (cs.foldl Eh.stp s) := by
  induction cs with
  | nil => exact fun h => h
  | cons c cs ih => exact fun h => ih (fun d hd => hc d (List.mem_cons_of_mem _ hd)) (h.stp (hc c List.mem_cons_self))
theorem kn_snoc (cs : Cs) (c : Nat × Nat) : kn (cs ++ [c]) = stp (kn cs) c := by unfold kn; rw [List.foldl_append]; rfl
theorem kn_take {cs : Cs} {t : Nat} {c : Nat × Nat} (h : cs[t]? = some c) : kn (cs.take (t + 1)) = stp (kn (cs.take t)) c := by
  rw [List.take_add_one, h]; exact kn_snoc _ _
/-- a needless call taken out -/
theorem kn_drop {N : Nat} {cs : Cs} {t : Nat} (hc : InN N cs) (h : Same N (kn (cs.take t)) (kn (cs.take (t + 1)))) : Same N (kn (cs.take t ++ cs.drop (t + 1))) (kn cs) := by
  have e : kn cs = (cs.drop (t + 1)).foldl stp (kn (cs.take (t + 1))) := by
    unfold kn
    rw [← List.foldl_append, List.take_append_drop]
  rw [e]
  unfold kn at h ⊢
  rw [List.foldl_append]
  exact Same.fold (fun d hd => hc d (List.mem_of_mem_drop hd)) h
theorem stp_idem (r : Rel) (c : Nat × Nat) : stp (stp r c) c = stp r c := by
  funext p k
  unfold stp
  by_cases h : p = c.1 ∨ p = c.2
  · simp only [h, if_true, true_or, or_true]
    cases r c.1 k <;> cases r c.2 k <;> rfl
  · simp [h]
/-! the row read backwards: as relations between people and pieces -/
def mul (N : Nat) (r s : Rel) : Rel := fun p k => (List.range N).any fun q => r p q && s q k
def cm (c : Nat × Nat) : Rel := fun p q => decide (p = q) || (decide (p = c.1 ∨ p = c.2) && decide (q = c.1 ∨ q = c.2))
theorem mul_iff {N : Nat} {r s : Rel} {p k : Nat} : mul N r s p k = true ↔ ∃ q < N, r p q = true ∧ s q k = true := by
  unfold mul
  simp [List.any_eq_true]
theorem stp_mul {N : Nat} {r : Rel} {c : Nat × Nat} (hc : c.1 < N ∧ c.2 < N) {p : Nat} (hp : p < N) (k : Nat) : stp r c p k = mul N (cm c) r p k := by
  rw [Bool.eq_iff_iff, mul_iff]
  unfold stp cm
  constructor
  · intro h
    by_cases h1 : p = c.1 ∨ p = c.2
    · rw [if_pos h1, Bool.or_eq_true] at h
      rcases h with h | h
      · exact ⟨c.1, hc.1, by simp [h1], h⟩
      · exact ⟨c.2, hc.2, by simp [h1], h⟩
    · rw [if_neg h1] at h
      exact ⟨p, hp, by simp, h⟩
  · rintro ⟨q, hq, h1, h2⟩
    rw [Bool.or_eq_true, Bool.and_eq_true, decide_eq_true_eq, decide_eq_true_eq, decide_eq_true_eq] at h1
    rcases h1 with rfl | ⟨h1, h3⟩
    · by_cases h1 : p = c.1 ∨ p = c.2
      · rw [if_pos h1]
        rcases h1 with rfl | rfl
        · rw [h2]; rfl
        · rw [h2, Bool.or_true]
      · rw [if_neg h1]; exact h2
    · rw [if_pos h1]
      rcases h3 with rfl | rfl
      · rw [h2]; rfl
      · rw [h2, Bool.or_true]
def path (N : Nat) (cs : Cs) : Rel := fun p k => (cs.foldr (fun c r => mul N r (cm c)) k0) p k
theorem mul_assoc {N : Nat} (r s t : Rel) (p k : Nat) : mul N (mul N r s) t p k = mul N r (mul N s t) p k := by
  rw [Bool.eq_iff_iff, mul_iff, mul_iff]
  constructor
  · rintro ⟨q, hq, h1, h2⟩
    obtain ⟨m, hm, h3, h4⟩ := mul_iff.mp h1
    exact ⟨m, hm, h3, mul_iff.mpr ⟨q, hq, h4, h2⟩⟩
  · rintro ⟨m, hm, h3, h1⟩
    obtain ⟨q, hq, h4, h2⟩ := mul_iff.mp h1
    exact ⟨q, hq, mul_iff.mpr ⟨m, hm, h3, h4⟩, h2⟩
theorem cm_symm (c : Nat × Nat) (p q : Nat) : cm c p q = cm c q p := by
  unfold cm
  rw [Bool.and_comm]
  by_cases h : p = q
  · simp [h]
  · simp [h, Ne.symm h]
/-- knowing of the row read backwards is the reversed relation -/
theorem kn_rev {N : Nat} : ∀ {cs : Cs}, InN N cs → ∀ p < N, ∀ k < N, kn cs.reverse p k = kn cs k p := by
  have e0 : ∀ (c : Nat × Nat), c.1 < N ∧ c.2 < N → ∀ a b : Nat, a < N → stp k0 c a b = cm c a b := fun c hcc a b ha => by
    rw [stp_mul hcc ha, Bool.eq_iff_iff, mul_iff]
    constructor
    · rintro ⟨q, _, h1, h2⟩
      have e : q = b := of_decide_eq_true h2
      subst e; exact h1
    · intro h
      refine ⟨b, ?_, h, decide_eq_true rfl⟩
      unfold cm at h
      rw [Bool.or_eq_true, Bool.and_eq_true, decide_eq_true_eq, decide_eq_true_eq, decide_eq_true_eq] at h
      rcases h with rfl | ⟨_, rfl | rfl⟩
      · exact ha
      · exact hcc.1
      · exact hcc.2
  have front : ∀ (cs : Cs), InN N cs → ∀ (r : Rel), ∀ p < N, ∀ k < N, cs.foldl stp r p k = mul N (cs.foldl stp k0) r p k := by
    intro cs
    induction cs with
    | nil =>
      intro _ r p hp k hk
      rw [Bool.eq_iff_iff, mul_iff]
      constructor
      · intro h; exact ⟨p, hp, decide_eq_true rfl, h⟩
      · rintro ⟨q, hq, h1, h2⟩
        have e : p = q := of_decide_eq_true h1
        subst e; exact h2
    | cons c cs ih =>
      intro hc r p hp k hk
      have hcs : InN N cs := fun d hd => hc d (List.mem_cons_of_mem _ hd)
      have hcc := hc c List.mem_cons_self
      show cs.foldl stp (stp r c) p k = mul N (cs.foldl stp (stp k0 c)) r p k
      rw [ih hcs _ p hp k hk, Bool.eq_iff_iff, mul_iff, mul_iff]
      constructor
      · rintro ⟨q, hq, h1, h2⟩
        rw [stp_mul hcc hq] at h2
        obtain ⟨m, hm, h3, h4⟩ := mul_iff.mp h2
        exact ⟨m, hm, by rw [ih hcs _ p hp m hm]; exact mul_iff.mpr ⟨q, hq, h1, by rw [e0 c hcc q m hq]; exact h3⟩, h4⟩
      · rintro ⟨m, hm, h1, h4⟩
        rw [ih hcs _ p hp m hm] at h1
        obtain ⟨q, hq, h1, h3⟩ := mul_iff.mp h1
        rw [e0 c hcc q m hq] at h3
        exact ⟨q, hq, h1, by rw [stp_mul hcc hq]; exact mul_iff.mpr ⟨m, hm, h3, h4⟩⟩
  intro cs
  induction cs with
  | nil => intro _ p _ k _; show decide (p = k) = decide (k = p); by_cases h : p = k <;> simp [h, Ne.symm, eq_comm]
  | cons c cs ih =>
    intro hc p hp k hk
    have hcs : InN N cs := fun d hd => hc d (List.mem_cons_of_mem _ hd)
    have hcc := hc c List.mem_cons_self
    rw [List.reverse_cons, kn_snoc, stp_mul hcc hp]
    show _ = (cs.foldl stp (stp k0 c)) k p
    rw [front cs hcs _ k hk p hp, Bool.eq_iff_iff, mul_iff, mul_iff]
    constructor
    · rintro ⟨q, hq, h1, h2⟩
      rw [ih hcs q hq k hk] at h2
      exact ⟨q, hq, h2, by rw [e0 c hcc q p hq, cm_symm]; exact h1⟩
    · rintro ⟨q, hq, h2, h1⟩
      rw [e0 c hcc q p hq, cm_symm] at h1
      exact ⟨q, hq, h1, by rw [ih hcs q hq k hk]; exact h2⟩
/-! needless calls -/
def fnl (N : Nat) (cs : Cs) : Option Nat := (List.range cs.length).find? fun t => sameB N (kn (cs.take t)) (kn (cs.take (t + 1)))
theorem find_range {n : Nat} {p : Nat → Bool} {t : Nat} (h : (List.range n).find? p = some t) : t < n ∧ p t = true ∧ ∀ s < t, p s = false := by
  have h1 := List.find?_some h
  have h2 := List.mem_of_find?_eq_some h
  refine ⟨by simpa using h2, h1, fun s hs => ?_⟩
  rw [List.find?_range_eq_some] at h
  have := h.2.2 s hs
  simpa using this
theorem find_none {n : Nat} {p : Nat → Bool} (h : (List.range n).find? p = none) : ∀ s < n, p s = false := fun s hs => by
  have := List.find?_eq_none.mp h s (by simpa using hs)
  simpa using this
theorem find_at {n : Nat} {p : Nat → Bool} {t : Nat} (h1 : t < n) (h2 : p t = true) (h3 : ∀ s < t, p s = false) : (List.range n).find? p = some t := by
  rw [List.find?_range_eq_some]
  exact ⟨h2, by simpa using h1, fun s hs => by simpa using h3 s hs⟩
def leftF (N : Nat) : Nat → Cs → Cs
  | 0, cs => cs
  | f + 1, cs => match fnl N cs with
    | none => cs
    | some t => leftF N f (cs.take t ++ cs.drop (t + 1))
theorem fnl_some {N : Nat} {cs : Cs} {t : Nat} (h : fnl N cs = some t) : t < cs.length ∧ Same N (kn (cs.take t)) (kn (cs.take (t + 1))) := by
  obtain ⟨h1, h2, _⟩ := find_range h
  exact ⟨h1, sameB_iff.mp h2⟩
theorem mem_cut {cs : Cs} {t : Nat} {c : Nat × Nat} (h : c ∈ cs.take t ++ cs.drop (t + 1)) : c ∈ cs := by
  rcases List.mem_append.mp h with h | h
  · exact List.mem_of_mem_take h
  · exact List.mem_of_mem_drop h
theorem len_cut {cs : Cs} {t : Nat} (h : t < cs.length) : (cs.take t ++ cs.drop (t + 1)).length + 1 = cs.length := by
  rw [List.length_append, List.length_take, List.length_drop]; omega
theorem leftF_ok {N : Nat} : ∀ (f : Nat) {cs : Cs}, InN N cs → cs.length < f → fnl N (leftF N f cs) = none ∧ Same N (kn (leftF N f cs)) (kn cs) ∧ (leftF N f cs).length ≤ cs.length ∧ ∀ c ∈ leftF N f cs, c ∈ cs
  | 0, cs, _, h => absurd h (Nat.not_lt_zero _)
  | f + 1, cs, hc, h => by
    unfold leftF
    cases e : fnl N cs with
    | none => exact ⟨e, Same.refl _ _, Nat.le_refl _, fun c hc => hc⟩
    | some t =>
      obtain ⟨h1, h2⟩ := fnl_some e
      have hl := len_cut h1
      obtain ⟨a, b, c, d⟩ := leftF_ok f (cs := cs.take t ++ cs.drop (t + 1)) (fun x hx => hc x (mem_cut hx)) (by omega)
      exact ⟨a, b.trans (kn_drop hc h2), by show (leftF N f _).length ≤ _; omega, fun x hx => mem_cut (d x hx)⟩
/-- the last call of a row without a needless one tells something -/
theorem last_tells {N : Nat} {cs : Cs} (h : fnl N cs = none) (hn : cs ≠ []) : ¬ Same N (kn cs.dropLast) (kn cs) := fun hs => by
  have hl : 0 < cs.length := List.length_pos_iff.mpr hn
  have := find_none h (cs.length - 1) (by omega)
  rw [show cs.length - 1 + 1 = cs.length by omega, List.take_length, ← List.dropLast_eq_take, sameB_iff.mpr hs] at this
  cases this
/-- .. and the last one again is needless -/
theorem twice_fnl {N : Nat} {cs : Cs} {c : Nat × Nat} (h : fnl N cs = none) (hl : cs.getLast? = some c) : fnl N (cs ++ [c]) = some cs.length := by
  have hcs : ∃ ys, cs = ys ++ [c] := List.getLast?_eq_some_iff.mp hl
  obtain ⟨ys, hcs⟩ := hcs
  refine find_at (by simp) ?_ fun s hs => ?_
  · rw [List.take_left, List.take_of_length_le (by simp), kn_snoc]
    refine sameB_iff.mpr ?_
    rw [hcs, kn_snoc, stp_idem]
    exact Same.refl _ _
  · have := find_none h s hs
    rw [List.take_append_of_le_length (by omega), List.take_append_of_le_length (by omega)]
    exact this
theorem fnl_two {N : Nat} (hN : 2 ≤ N) : fnl N [(0, 1), (0, 1)] = some 1 := by
  refine find_at (by decide) ?_ fun s hs => ?_
  · refine sameB_iff.mpr ?_
    show Same N (kn ([(0, 1)] : Cs)) (kn ([(0, 1)] ++ [(0, 1)]))
    rw [kn_snoc ([(0, 1)]) (0, 1)]
    show Same N (stp k0 (0, 1)) (stp (stp k0 (0, 1)) (0, 1))
    rw [stp_idem]
    exact Same.refl _ _
  · have e : s = 0 := by omega
    subst e
    cases h : sameB N (kn (List.take 0 [(0, 1), (0, 1)])) (kn (List.take (0 + 1) [(0, 1), (0, 1)])) with
    | false => rfl
    | true =>
      have := sameB_iff.mp h 0 (by omega) 1 (by omega)
      cases this
end Eh

namespace Eh
open PySem PySem.Spec PyProof.Rows L2
def t_led (K : PySem.W.Frag) (w : World) (E : XK) : TS :=
  (tSeq (tAsg (tLc (iRng1 (tCons (tVar 0) tNil)) (gName 7) tYes (tTup (tCons (tVar 7) tNil)) [7]) (gName 2))
    (tSeq (tAsg (tLst (tCons (tCB (rListA K) (tCons (tVar 2) tNil)) tNil)) (gName 3))
    (tSeq (tFor (iSeq K (tVar 1)) (gTup K 2 (gCons (gName 4) (gCons (gName 5) gNil))) (tSeq (tAsg (tThen (tCB (rSortedSet w) (tCons (tCB (rSetT K w) (tCons (tOp (rAddA K) (tOp (rIx K) (tVar 2) (tVar 4)) (tOp (rIx K) (tVar 2) (tVar 5))) tNil)) tNil)) (kTup K)) (gName 6))
    (tSeq (tAsg (tVar 6) (gSub (tVar 2) (tVar 4) rSetL))
    (tSeq (tAsg (tVar 6) (gSub (tVar 2) (tVar 5) rSetL))
    (tDrop (tBM K "list" rAppend (tVar 3) (tCons (tCB (rListA K) (tCons (tVar 2) tNil)) tNil)))))))
    (tRet (tVar 3)))))
def t_known_after (K : PySem.W.Frag) (w : World) (sp_check_calls : Sp) (sp_led : Sp) (E : XK) : TS :=
  (tSeq (tDrop (tCall sp_check_calls [] E (tCons (tVar 0) (tCons (tVar 1) tNil))))
    (tRet (tThen (tOp (rIx K) (tCall sp_led [] E (tCons (tVar 0) (tCons (tVar 1) tNil))) (tUn rNegI (tC (.int 1)))) (kTup K))))
def t_all_know (K : PySem.W.Frag) (w : World) (sp_check_calls : Sp) (sp_led : Sp) (E : XK) : TS :=
  (tSeq (tDrop (tCall sp_check_calls [] E (tCons (tVar 0) (tCons (tVar 1) tNil))))
    (tRet (tCB (rAll K) (tCons (tLc (iSeq K (tOp (rIx K) (tCall sp_led [] E (tCons (tVar 0) (tCons (tVar 1) tNil))) (tUn rNegI (tC (.int 1))))) (gName 2) tYes (tOp (rEqA K) (tCB (rLenA K) (tCons (tVar 2) tNil)) (tVar 0)) [2]) tNil))))
def t_first_needless (K : PySem.W.Frag) (w : World) (sp_check_calls : Sp) (sp_led : Sp) (E : XK) : TS :=
  (tSeq (tDrop (tCall sp_check_calls [] E (tCons (tVar 0) (tCons (tVar 1) tNil))))
    (tSeq (tAsg (tCall sp_led [] E (tCons (tVar 0) (tCons (tVar 1) tNil))) (gName 2))
    (tSeq (tFor (iRng1 (tCons (tCB (rLenA K) (tCons (tVar 1) tNil)) tNil)) (gName 3) (tIfS (tTest (tOp (rEqA K) (tOp (rIx K) (tVar 2) (tVar 3)) (tOp (rIx K) (tVar 2) (tOp (rAddA K) (tVar 3) (tC (.int 1)))))) (tRet (tVar 3)) tNext))
    (tRet (tC .non)))))
def t_call_graph (K : PySem.W.Frag) (w : World) (sp_check_calls : Sp) (E : XK) : TS :=
  (tSeq (tDrop (tCall sp_check_calls [] E (tCons (tVar 0) (tCons (tVar 1) tNil))))
    (tRet (tThen (tLc (iRng1 (tCons (tVar 0) tNil)) (gName 2) tYes (tCB (rLenA K) (tCons (tLc (iSeq K (tVar 1)) (gName 3) (tTest (tOp (rInA K) (tVar 2) (tVar 3))) (tVar 3) [3]) tNil)) [2]) (kTup K))))

/-! ### as data -/
def intD (n : Nat) : PyData := .int n
def encP (c : Nat × Nat) : PyData := .tuple [.int c.1, .int c.2]
def encCs (cs : Cs) : PyData := .tuple (cs.map encP)
def lotD (N : Nat) (f : Nat → Bool) : PyData := .tuple (((List.range N).filter f).map fun k : Nat => .int k)
def rowsD (N : Nat) (r : Rel) : List PyData := (List.range N).map fun p => lotD N (r p)
def GoodC (N : Nat) (cs : Cs) : Prop := 2 ≤ N ∧ N ≤ 6 ∧ cs.length ≤ 40 ∧ ∀ c ∈ cs, c.1 < c.2 ∧ c.2 < N
theorem GoodC.inN {N : Nat} {cs : Cs} (h : GoodC N cs) : InN N cs := fun c hc => by have := h.2.2.2 c hc; omega
theorem pw_range : ∀ n : Nat, ((List.range n).map fun k : Nat => (k : Int)).Pairwise (· < ·)
  | 0 => .nil
  | n + 1 => by
    rw [List.range_succ, List.map_append, List.pairwise_append]
    refine ⟨pw_range n, by simp, fun a ha b hb => ?_⟩
    obtain ⟨x, hx, rfl⟩ := List.mem_map.mp ha
    obtain ⟨y, hy, rfl⟩ := List.mem_map.mp hb
    have := List.mem_range.mp hx
    have : y = n := by simpa using hy
    omega
theorem pw_lot (N : Nat) (f : Nat → Bool) : (((List.range N).filter f).map fun k : Nat => (k : Int)).Pairwise (· < ·) :=
  List.Pairwise.sublist (List.Sublist.map _ List.filter_sublist) (pw_range N)
theorem mem_lot {N : Nat} {f : Nat → Bool} {k : Int} : (k ∈ ((List.range N).filter f).map fun k : Nat => (k : Int)) ↔ ∃ m : Nat, k = m ∧ m < N ∧ f m = true := by
  rw [List.mem_map]
  constructor
  · rintro ⟨m, hm, rfl⟩
    have := List.mem_filter.mp hm
    exact ⟨m, rfl, List.mem_range.mp this.1, this.2⟩
  · rintro ⟨m, rfl, h1, h2⟩
    exact ⟨m, List.mem_filter.mpr ⟨List.mem_range.mpr h1, h2⟩, rfl⟩
theorem lotD_int (N : Nat) (f : Nat → Bool) : lotD N f = .tuple ((((List.range N).filter f).map fun k : Nat => (k : Int)).map .int) := by
  unfold lotD; rw [List.map_map]; rfl
theorem lot_len (N : Nat) (f : Nat → Bool) : ((List.range N).filter f).length ≤ N := Nat.le_trans (List.length_filter_le _ _) (by simp)
theorem rows_at {N : Nat} {r : Rel} {p : Nat} (h : p < N) : (rowsD N r)[p]? = some (lotD N (r p)) := by
  unfold rowsD
  rw [List.getElem?_map, List.getElem?_range h]; rfl
theorem rows_len (N : Nat) (r : Rel) : (rowsD N r).length = N := by unfold rowsD; simp
theorem rows_ext {N : Nat} {ds es : List PyData} (h : ds.length = N) (k : es.length = N) (g : ∀ p < N, ds[p]? = es[p]?) : ds = es := by
  apply List.ext_getElem?
  intro i
  by_cases hi : i < N
  · exact g i hi
  · rw [List.getElem?_eq_none (by omega), List.getElem?_eq_none (by omega)]
theorem rows_set {N : Nat} {r : Rel} {i j : Nat} (hi : i < N) (hj : j < N) : ((rowsD N r).set i (lotD N fun k => r i k || r j k)).set j (lotD N fun k => r i k || r j k) = rowsD N (stp r (i, j)) := by
  refine rows_ext (by rw [List.length_set, List.length_set, rows_len]) (rows_len _ _) fun p hp => ?_
  rw [rows_at hp, List.getElem?_set, List.getElem?_set, List.length_set, rows_len, rows_at hp]
  unfold stp
  by_cases h1 : j = p
  · subst h1
    rw [if_pos rfl, if_pos hp]
    simp
  · rw [if_neg h1]
    by_cases h2 : i = p
    · subst h2
      rw [if_pos rfl, if_pos hp]
      simp
    · rw [if_neg h2]
      simp [Ne.symm h1, Ne.symm h2]
theorem rows_k0 (N : Nat) : ((List.range N).map fun p : Nat => PyData.tuple [.int p]) = rowsD N k0 := by
  unfold rowsD
  refine List.map_congr_left fun p hp => ?_
  have hp := List.mem_range.mp hp
  rw [lotD_int]
  have e : (((List.range N).filter (k0 p)).map fun k : Nat => (k : Int)) = [(p : Int)] :=
    srt_unique (pw_lot N _) (by simp) fun k => by
      rw [mem_lot, List.mem_singleton]
      constructor
      · rintro ⟨m, rfl, _, h⟩
        have e : p = m := of_decide_eq_true h
        rw [e]
      · rintro rfl
        exact ⟨p, rfl, hp, decide_eq_true rfl⟩
  rw [e]; rfl
/-! the calls, checked -/
def R_chk (C C' : Addr) (v : Nat → Cs → PyData) (ds : List PyData) (o : Out) : Prop := (∃ N cs, GoodC N cs ∧ ds = [.int (N : Nat), encCs cs] ∧ o = .ok (v N cs)) ∨
  ∃ n d, ds = [n, d] ∧ TupLe 100000 d ∧ (fromTo n 2 6 = false ∧ o = .err C none ∨ fromTo n 2 6 = true ∧ okCalls d (intOf n) = false ∧ o = .err C' none)
theorem fromTo_nat {n : Nat} {a b : Int} (h1 : a ≤ n) (h2 : n ≤ b) : fromTo (.int (n : Nat)) a b = true := by
  show (true && (decide (a ≤ (n : Int)) && decide ((n : Int) ≤ b))) = true
  rw [decide_eq_true h1, decide_eq_true h2]; rfl
theorem good_ok {N : Nat} {cs : Cs} (h : GoodC N cs) : fromTo (.int (N : Nat)) 2 6 = true ∧ okCalls (encCs cs) (N : Nat) = true := by
  obtain ⟨h1, h2, h3, h4⟩ := h
  refine ⟨fromTo_nat (by omega) (by omega), ?_⟩
  unfold okCalls arePairs encCs
  show (true && (cs.map encP).all isPair && (cs.map encP).all (okPair N) && decide (((cs.map encP).length : Int) ≤ 40)) = true
  rw [decide_eq_true (by rw [List.length_map]; omega), List.all_map, List.all_map]
  have e1 : cs.all (isPair ∘ encP) = true := List.all_eq_true.mpr fun c _ => rfl
  have e2 : cs.all (okPair N ∘ encP) = true := List.all_eq_true.mpr fun c hc => by
    have := h4 c hc
    show (fromTo (.int (c.1 : Nat)) 0 ((N : Int) - 1) && (fromTo (.int (c.2 : Nat)) 0 ((N : Int) - 1) && decide ((c.1 : Int) < (c.2 : Int)))) = true
    rw [fromTo_nat (by omega) (by omega), fromTo_nat (by omega) (by omega), decide_eq_true (by omega)]; rfl
  rw [e1, e2]; rfl
section
variable {K : PySem.W.Frag} {w : World} {C C' : Addr}
/-- a def that checks n and calls first -/
theorem chk_body {N : List Str} {t : TS} {v : Nat → Cs → PyData} {B F0 : Hp} {D : Ends} {E : XK} {ds : List PyData} {o : Out} (hR : R_chk C C' v ds o) (hx : RaiseOk pc0 B F0 E (fun c f => o = .err c f))
    (k : ∀ M cs, GoodC M cs → ds = [.int (M : Nat), encCs cs] → o = .ok (v M cs) → At pc0 B F0 (startG N.length [.int (M : Nat), encCs cs]) (t D)) (hN : ∀ n d, (startG N.length [n, d])[0]? = some (.dat n) ∧ (startG N.length [n, d])[1]? = some (.dat d)) :
    At pc0 B F0 (startG N.length ds) (tSeq (tDrop (tCall (spR (R_check_calls C C')) [] E (tCons (tVar 0) (tCons (tVar 1) tNil)))) t D) := by
  rcases hR with ⟨M, cs, hg, rfl, rfl⟩ | ⟨n, d, rfl, hz, h⟩
  · obtain ⟨g1, g2⟩ := good_ok hg
    refine at_seq (at_drop (ev_call (d := .none) (ea_cons (ev_var (hN _ _).1) (ea_cons (ev_var (hN _ _).2) ea_nil)) ⟨_, _, rfl, ?_, ?_⟩) (k M cs hg rfl rfl))
    · show ((cs.map encP).length) ≤ _
      rw [List.length_map]; have := hg.2.2.1; omega
    · rw [g1, if_pos rfl, show intOf (.int (M : Nat)) = (M : Nat) from rfl, g2]; rfl
  · rcases h with ⟨h1, rfl⟩ | ⟨h1, h2, rfl⟩
    · exact at_seq (at_dropX hx (ex_call (c := C) (f := none) (ea_cons (ev_var (hN _ _).1) (ea_cons (ev_var (hN _ _).2) ea_nil)) ⟨n, d, rfl, hz, by rw [h1]; rfl⟩) rfl)
    · exact at_seq (at_dropX hx (ex_call (c := C') (f := none) (ea_cons (ev_var (hN _ _).1) (ea_cons (ev_var (hN _ _).2) ea_nil)) ⟨n, d, rfl, hz, by rw [h1, h2]; rfl⟩) rfl)
/-! led -/
def statesD (N : Nat) (cs : Cs) (t : Nat) : List PyData := (List.range (t + 1)).map fun t => .list (rowsD N (kn (cs.take t)))
def R_led (ds es : List PyData) : Prop := ∃ N cs, GoodC N cs ∧ ds = [.int (N : Nat), encCs cs] ∧ es = statesD N cs cs.length
theorem states_succ (N : Nat) (cs : Cs) (t : Nat) : statesD N cs (t + 1) = statesD N cs t ++ [.list (rowsD N (kn (cs.take (t + 1))))] := by
  unfold statesD
  rw [List.range_succ, List.map_append]; rfl
theorem pure_led (vs : List V) (H : Hp) (Q : VK) (E : XK) (h : spN R_led vs H Q E) : t_led K w E { nx := fun _ H' => Q .non H', rt := Q } (L2.start ["n", "calls", "known", "found", "i", "j", "both", "person"] vs) H :=
  spN_body (N := ["n", "calls", "known", "found", "i", "j", "both", "person"]) (t := t_led K w E) h fun ds es hR B F0 D hr => by
    obtain ⟨N, cs, hg, rfl, rfl⟩ := hR
    have hN : N ≤ 6 := hg.2.1
    refine at_seq (at_asgN (ds := rowsD N k0) ((en_lcM (xs := List.range N) (enc := fun i : Nat => .int i) (f := fun p : Nat => .tuple [.int p]) (Γx := fun x => [.dat (.int (N : Nat)), .dat (encCs cs), .no, .no, .no, .no, .no, .dat (.int (x : Nat))])
      (if_rngN (ev_var rfl) (by omega)).h (by simp; omega) (fun x _ => tg_name List.mem_cons_self) fun x _ => ev_tup (ea_cons (ev_var rfl) ea_nil) (by simp)).is (rows_k0 N)) ?_)
    refine at_seq (at_asgN (ds := [.list (rowsD N k0)]) (en_lst (ea_cons (en_list (rl_own rfl).s).fz ea_nil) (by simp)) ?_)
    refine at_seq (at_forR (xs := cs) (enc := encP) (vs := [4, 5]) (fun t Γ => ∃ x y z, Γ = [.dat (.int (N : Nat)), .dat (encCs cs), .own (rowsD N (kn (cs.take t))), .own (statesD N cs t), x, y, z, .no]) ⟨_, _, _, rfl⟩ (if_tup (ev_var rfl))
      (fun c Γ => (Γ.set 4 (.dat (.int (c.1 : Nat)))).set 5 (.dat (.int (c.2 : Nat)))) (fun t c Γ _ _ => tg_pair (by simp) (by simp)) ?_ ?_)
    · rintro t c Γ hc ⟨x, y, z, rfl⟩ F1 H1 gr D' e1 e2 e3 e4
      have hmem := List.mem_of_getElem? hc
      obtain ⟨hlt, hj⟩ := hg.2.2.2 c hmem
      have hi : c.1 < N := by omega
      have hl1 := lot_len N (kn (cs.take t) c.1)
      have hl2 := lot_len N (kn (cs.take t) c.2)
      refine at_seq (at_asg (d := lotD N fun k => kn (cs.take t) c.1 k || kn (cs.take t) c.2 k) ?_ ?_)
      · rw [lotD_int]
        refine ev_tupleL (en_sortedSet (ns := (((List.range N).filter (kn (cs.take t) c.1)).map fun k : Nat => (k : Int)) ++ ((List.range N).filter (kn (cs.take t) c.2)).map fun k : Nat => (k : Int)) ?_ ?_ (pw_lot N _) fun k => ?_).rl
        · refine (ev_catT (ev_ixN (rl_own rfl).s (ev_var rfl) ((rows_at hi).trans (by rw [lotD_int]))) (ev_ixN (rl_own rfl).s (ev_var rfl) ((rows_at hj).trans (by rw [lotD_int]))) (by simp; omega)).is ?_
          rw [List.map_append]
        · simp; omega
        · rw [List.mem_append, mem_lot, mem_lot, mem_lot]
          constructor
          · rintro ⟨m, rfl, h1, h2⟩
            rw [Bool.or_eq_true] at h2
            rcases h2 with h2 | h2
            · exact .inl ⟨m, rfl, h1, h2⟩
            · exact .inr ⟨m, rfl, h1, h2⟩
          · rintro (⟨m, rfl, h1, h2⟩ | ⟨m, rfl, h1, h2⟩)
            · exact ⟨m, rfl, h1, by rw [h2]; rfl⟩
            · exact ⟨m, rfl, h1, by rw [h2, Bool.or_true]⟩
      · refine at_seq (at_setL (k := c.1) rfl (ev_var rfl) (ev_var rfl) (ixN_nat (by rw [rows_len]; exact hi)) ?_)
        refine at_seq (at_setL (k := c.2) rfl (ev_var rfl) (ev_var rfl) (ixN_nat (by rw [List.length_set, rows_len]; exact hj)) ?_)
        refine at_append (ds := statesD N cs t) rfl ?_ (en_list (rl_own rfl).s).fz (e2 _ ?_)
        · have : t < cs.length := (List.getElem?_eq_some_iff.mp hc).1
          have := hg.2.2.1
          unfold statesD; simp; omega
        · rw [rows_set hi hj, ← kn_take hc, ← states_succ]; exact ⟨_, _, _, rfl⟩
    · rintro Γ ⟨x, y, z, rfl⟩
      exact at_retO hr (i := 3) rfl rfl
/-! what is asked of it -/
theorem states_at {N : Nat} {cs : Cs} {t : Nat} (h : t ≤ cs.length) : (statesD N cs cs.length)[t]? = some (.list (rowsD N (kn (cs.take t)))) := by
  unfold statesD
  rw [List.getElem?_map, List.getElem?_range (by omega)]; rfl
theorem states_last (N : Nat) (cs : Cs) : atI (statesD N cs cs.length) (-1) = some (.list (rowsD N (kn cs))) := by
  unfold atI ixN
  have hl : (statesD N cs cs.length).length = cs.length + 1 := by unfold statesD; simp
  rw [hl, if_neg (by decide), if_pos (by omega)]
  show (statesD N cs cs.length)[((-1 : Int) + ((cs.length + 1 : Nat) : Int)).toNat]? = _
  rw [show ((-1 : Int) + ((cs.length + 1 : Nat) : Int)).toNat = cs.length by omega, states_at (Nat.le_refl _), List.take_length]
def knownD (N : Nat) (cs : Cs) : PyData := .tuple (rowsD N (kn cs))
def allB (N : Nat) (r : Rel) : Bool := (List.range N).all fun p => (List.range N).all fun k => r p k
theorem all_len {N : Nat} (f : Nat → Bool) : decide (((((List.range N).filter f).map fun k : Nat => PyData.int k).length : Int) = (N : Nat)) = (List.range N).all f := by
  rw [List.length_map, Bool.eq_iff_iff, decide_eq_true_eq]
  constructor
  · intro h
    have h2 : ((List.range N).filter f).length = (List.range N).length := by rw [List.length_range]; omega
    have h3 := List.length_filter_eq_length_iff.mp h2
    exact List.all_eq_true.mpr h3
  · intro h
    have h3 : ((List.range N).filter f).length = (List.range N).length := List.length_filter_eq_length_iff.mpr (List.all_eq_true.mp h)
    rw [h3, List.length_range]
theorem pure_known_after (vs : List V) (H : Hp) (Q : VK) (E : XK) (h : spR (R_chk C C' knownD) vs H Q E) : t_known_after K w (spR (R_check_calls C C')) (spN R_led) E { nx := fun _ H' => Q .non H', rt := Q } (L2.start ["n", "calls"] vs) H :=
  spR_body (N := ["n", "calls"]) (t := fun E => t_known_after K w (spR (R_check_calls C C')) (spN R_led) E) h fun ds o hR B F0 D E hr hx hn => by
    refine chk_body (N := ["n", "calls"]) hR hx (fun M cs hg e1 e2 => ?_) fun n d => ⟨rfl, rfl⟩
    subst e2
    refine at_ret hr (ev_tupleL (EvD.rl (ev_ix (i := -1) (en_call (ea_cons (ev_var rfl) (ea_cons (ev_var rfl) ea_nil)) ⟨M, cs, hg, rfl, rfl⟩).rl.s (ev_neg ev_int) (states_last M cs)))) rfl
theorem pure_all_know (vs : List V) (H : Hp) (Q : VK) (E : XK) (h : spR (R_chk C C' fun N cs => .bool (allB N (kn cs))) vs H Q E) : t_all_know K w (spR (R_check_calls C C')) (spN R_led) E { nx := fun _ H' => Q .non H', rt := Q } (L2.start ["n", "calls", "lot"] vs) H :=
  spR_body (N := ["n", "calls", "lot"]) (t := fun E => t_all_know K w (spR (R_check_calls C C')) (spN R_led) E) h fun ds o hR B F0 D E hr hx hn => by
    refine chk_body (N := ["n", "calls", "lot"]) hR hx (fun M cs hg e1 e2 => ?_) fun n d => ⟨rfl, rfl⟩
    subst e2
    have hl : EvD (tOp (rIx K) (tCall (spN R_led) [] E (tCons (tVar 0) (tCons (tVar 1) tNil))) (tUn rNegI (tC (.int 1)))) (startG 3 [.int (M : Nat), encCs cs]) (.list (rowsD M (kn cs))) :=
      ev_ix (i := -1) (en_call (ea_cons (ev_var rfl) (ea_cons (ev_var rfl) ea_nil)) ⟨M, cs, hg, rfl, rfl⟩).rl.s (ev_neg ev_int) (states_last M cs)
    refine at_ret hr (ev_allC (xs := List.range M) (enc := fun p => lotD M (kn cs p)) (p := fun p => (List.range M).all (kn cs p)) (Γx := fun p => [.dat (.int (M : Nat)), .dat (encCs cs), .dat (lotD M (kn cs p))]) (ih_seq hl.rl.s) (by simp; have := hg.2.1; omega) (fun x _ => tg_name List.mem_cons_self) fun p _ => ?_) rfl
    exact (ev_eqI (ev_len (ev_var (d := lotD M (kn cs p)) rfl).rt) (ev_var rfl)).is (by rw [all_len])
/-! == over rows -/
theorem eqvAll_ints : ∀ (xs ys : List Nat), PyData.eqvAll (xs.map fun k : Nat => PyData.int k) (ys.map fun k : Nat => PyData.int k) = decide (xs = ys)
  | [], [] => rfl
  | [], _ :: _ => rfl
  | _ :: _, [] => rfl
  | x :: xs, y :: ys => by
    show (((x : Int) == (y : Int)) && PyData.eqvAll _ _) = _
    rw [eqvAll_ints xs ys, Bool.eq_iff_iff, Bool.and_eq_true, beq_iff_eq, decide_eq_true_eq, decide_eq_true_eq, List.cons.injEq, Int.ofNat_inj]
theorem filter_eq_iff {N : Nat} {f g : Nat → Bool} : (List.range N).filter f = (List.range N).filter g ↔ ∀ k < N, f k = g k := by
  constructor
  · intro h k hk
    rw [Bool.eq_iff_iff]
    have e : k ∈ (List.range N).filter f ↔ k ∈ (List.range N).filter g := by rw [h]
    simpa [hk] using e
  · intro h
    exact List.filter_congr fun k hk => h k (List.mem_range.mp hk)
theorem eqvAll_rows (f g : Nat → PyData) : ∀ (l : List Nat), PyData.eqvAll (l.map f) (l.map g) = l.all fun p => PyData.eqv (f p) (g p)
  | [] => rfl
  | p :: l => by
    show (PyData.eqv (f p) (g p) && PyData.eqvAll _ _) = _
    rw [eqvAll_rows f g l]; rfl
theorem eqv_rows (N : Nat) (r s : Rel) : PyData.eqv (.list (rowsD N r)) (.list (rowsD N s)) = sameB N r s := by
  show PyData.eqvAll (rowsD N r) (rowsD N s) = _
  unfold rowsD
  rw [eqvAll_rows, Bool.eq_iff_iff, sameB_iff, List.all_eq_true]
  constructor
  · intro h p hp
    have := h p (List.mem_range.mpr hp)
    have e : PyData.eqvAll _ _ = true := this
    rw [eqvAll_ints, decide_eq_true_eq, filter_eq_iff] at e
    exact e
  · intro h p hp
    show PyData.eqvAll _ _ = true
    rw [eqvAll_ints, decide_eq_true_eq, filter_eq_iff]
    exact h p (List.mem_range.mp hp)
theorem sh_rows (N : Nat) (r : Rel) : SeqAt.shaped (.list (rowsD N r)) = true := by
  refine (shN_list (n := 1) fun d hd => ?_).sh (by decide)
  obtain ⟨p, _, rfl⟩ := List.mem_map.mp hd
  refine shN_tup fun e he => ?_
  obtain ⟨k, _, rfl⟩ := List.mem_map.mp he
  exact shN_int _
def optD : Option Nat → PyData | none => .none | some t => .int (t : Nat)
theorem pure_first_needless (vs : List V) (H : Hp) (Q : VK) (E : XK) (h : spR (R_chk C C' fun N cs => optD (fnl N cs)) vs H Q E) : t_first_needless K w (spR (R_check_calls C C')) (spN R_led) E { nx := fun _ H' => Q .non H', rt := Q } (L2.start ["n", "calls", "known", "at"] vs) H :=
  spR_body (N := ["n", "calls", "known", "at"]) (t := fun E => t_first_needless K w (spR (R_check_calls C C')) (spN R_led) E) h fun ds o hR B F0 D E hr hx hn => by
    refine chk_body (N := ["n", "calls", "known", "at"]) hR hx (fun M cs hg e1 e2 => ?_) fun n d => ⟨rfl, rfl⟩
    subst e2
    have h40 := hg.2.2.1
    refine at_seq (at_asgN (en_call (ea_cons (ev_var rfl) (ea_cons (ev_var rfl) ea_nil)) ⟨M, cs, hg, rfl, rfl⟩) ?_)
    refine at_seq (at_forR (xs := List.range cs.length) (enc := fun i : Nat => .int i) (vs := [3]) (fun t Γ => (∃ x, Γ = [.dat (.int (M : Nat)), .dat (encCs cs), .own (statesD M cs cs.length), x]) ∧ ∀ s < t, sameB M (kn (cs.take s)) (kn (cs.take (s + 1))) = false)
      ⟨⟨_, rfl⟩, fun s hs => absurd hs (Nat.not_lt_zero _)⟩ (if_rngN ((ev_len (ev_var (d := encCs cs) rfl).rt).is (by rw [List.length_map])) (by omega)) (fun x Γ => Γ.set 3 (.dat (.int (x : Nat)))) (fun t x Γ _ _ => tg_name List.mem_cons_self) ?_ ?_)
    · rintro t x Γ hx ⟨⟨y, rfl⟩, hno⟩ F1 H1 gr D' e1 e2 e3 e4
      have ht : t < cs.length := by simpa using (List.getElem?_eq_some_iff.mp hx).1
      rw [List.getElem?_range ht] at hx
      cases hx
      refine at_if (et_test ((ev_eqD (ev_ixN (rl_own rfl).s (ev_var rfl) (states_at (by omega))) (ev_ix (i := (t : Int) + 1) (rl_own rfl).s (ev_add (ev_var rfl) ev_int) (atI_nat (j := t + 1) (states_at (by omega)))) (sh_rows _ _) (sh_rows _ _)).is (by rw [eqv_rows]))) (fun hb => ?_) fun hb => ?_
      · refine at_ret (R := fun d => Out.ok (optD (fnl M cs)) = .ok d) (fun F H v d w g => e1 ▸ (hr.chain gr) F H v d w g) (ev_var rfl) ?_
        rw [show fnl M cs = some t from find_at ht hb hno]; rfl
      · refine at_next (e2 _ ⟨⟨_, rfl⟩, fun s hs => ?_⟩)
        by_cases e : s = t
        · subst e; exact hb
        · exact hno s (by omega)
    · rintro Γ ⟨⟨y, rfl⟩, hno⟩
      rw [List.length_range] at hno
      refine at_ret hr ev_non ?_
      have e : fnl M cs = none := List.find?_eq_none.mpr fun s hs => by rw [hno s (List.mem_range.mp hs)]; exact Bool.false_ne_true
      rw [e]; rfl
def graphD (N : Nat) (cs : Cs) : PyData := .tuple ((List.range N).map fun p : Nat => .int ((cs.filter fun c => decide (p = c.1) || decide (p = c.2)).length : Nat))
theorem in_pair (p : Nat) (c : Nat × Nat) : (([PyData.int (c.1 : Nat), .int (c.2 : Nat)]).any fun z => PyData.eqv z (.int (p : Nat))) = (decide (p = c.1) || decide (p = c.2)) := by
  show (((c.1 : Int) == (p : Int)) || (((c.2 : Int) == (p : Int)) || false)) = _
  rw [Bool.or_false, Bool.eq_iff_iff]
  simp only [Bool.or_eq_true, beq_iff_eq, decide_eq_true_eq]
  omega
theorem pure_call_graph (vs : List V) (H : Hp) (Q : VK) (E : XK) (h : spR (R_chk C C' graphD) vs H Q E) : t_call_graph K w (spR (R_check_calls C C')) E { nx := fun _ H' => Q .non H', rt := Q } (L2.start ["n", "calls", "person", "call"] vs) H :=
  spR_body (N := ["n", "calls", "person", "call"]) (t := fun E => t_call_graph K w (spR (R_check_calls C C')) E) h fun ds o hR B F0 D E hr hx hn => by
    refine chk_body (N := ["n", "calls", "person", "call"]) hR hx (fun M cs hg e1 e2 => ?_) fun n d => ⟨rfl, rfl⟩
    subst e2
    have h40 := hg.2.2.1
    have hN := hg.2.1
    refine at_ret hr (ev_tupleL (en_lcM (xs := List.range M) (enc := fun p : Nat => .int p) (Γx := fun p => [.dat (.int (M : Nat)), .dat (encCs cs), .dat (.int (p : Nat)), .no]) (if_rngN (ev_var rfl) (by omega)).h (by simp; omega) (fun x _ => tg_name List.mem_cons_self) fun p _ => ?_).rl) rfl
    refine (ev_len (en_lc (xs := cs) (enc := encP) (f := encP) (p := fun c => decide (p = c.1) || decide (p = c.2)) (Γx := fun c => [.dat (.int (M : Nat)), .dat (encCs cs), .dat (.int (p : Nat)), .dat (encP c)]) (ih_seq (ev_var (d := encCs cs) rfl).rt) (by omega) (fun x _ => tg_name List.mem_cons_self) (fun c _ => ?_) fun c _ _ => ev_var rfl).rl.s).is (by rw [List.length_map])
    exact et_test ((ev_inA (ev_var rfl) (ev_var (d := encP c) rfl).rt rfl rfl).is (by rw [in_pair]))
end
end Eh

namespace Eh
open PySem PySem.Spec PyProof.Rows L2
def t__law_walk (K : PySem.W.Frag) (w : World) (E : XK) : TS :=
  (tSeq (tAsg (tLc (iRng1 (tCons (tVar 0) tNil)) (gName 8) tYes (tOp rShlI (tC (.int 1)) (tVar 8)) [8]) (gName 2))
    (tSeq (tAsg (tC .non) (gName 3))
    (tSeq (tFor (iRng1 (tCons (tCB (rLenA K) (tCons (tVar 1) tNil)) tNil)) (gName 4) (tSeq (tAsg (tOp (rIx K) (tOp (rIx K) (tVar 1) (tVar 4)) (tC (.int 0))) (gName 5))
    (tSeq (tAsg (tOp (rIx K) (tOp (rIx K) (tVar 1) (tVar 4)) (tC (.int 1))) (gName 6))
    (tSeq (tAsg (tOp rOrI (tOp (rIx K) (tVar 2) (tVar 5)) (tOp (rIx K) (tVar 2) (tVar 6))) (gName 7))
    (tSeq (tIfS (tAnd (tTest (tOp rIsN (tVar 3) (tC .non))) (tAnd (tTest (tOp (rEqA K) (tOp (rIx K) (tVar 2) (tVar 5)) (tVar 7))) (tTest (tOp (rEqA K) (tOp (rIx K) (tVar 2) (tVar 6)) (tVar 7))))) (tAsg (tVar 4) (gName 3)) tNext)
    (tSeq (tAsg (tVar 7) (gSub (tVar 2) (tVar 5) rSetL))
    (tAsg (tVar 7) (gSub (tVar 2) (tVar 6) rSetL))))))))
    (tRet (tLst (tCons (tVar 2) (tCons (tVar 3) tNil)))))))

/-! ### alike: a law's own comparison, of what is alike -/
def scal (d : PyData) : Prop := d = .none ∨ (∃ b, d = .bool b) ∨ ∃ i, d = .int i
def PlD : Nat → PyData → Prop
  | 0, d => scal d
  | n + 1, d => scal d ∨ ∃ xs, d = .tuple xs ∧ xs.length ≤ 100000 ∧ ∀ x ∈ xs, PlD n x
def R_same : Nat → List PyData → Out → Prop
  | 0, _, _ => False
  | n + 1, ds, o => ∃ x, PlD n x ∧ ds = [x, x] ∧ o = .ok (.bool true)
theorem pl_int {i : Int} : ∀ {n : Nat}, PlD n (.int i)
  | 0 => .inr (.inr ⟨i, rfl⟩)
  | _ + 1 => .inl (.inr (.inr ⟨i, rfl⟩))
theorem pl_bl {i : Bool} : ∀ {n : Nat}, PlD n (.bool i)
  | 0 => .inr (.inl ⟨i, rfl⟩)
  | _ + 1 => .inl (.inr (.inl ⟨i, rfl⟩))
theorem pl_non : ∀ {n : Nat}, PlD n .none
  | 0 => .inl rfl
  | _ + 1 => .inl (.inl rfl)
theorem pl_tup {n : Nat} {xs : List PyData} (hz : xs.length ≤ 100000) (h : ∀ x ∈ xs, PlD n x) : PlD (n + 1) (.tuple xs) := .inr ⟨xs, rfl, hz, h⟩
section
variable {K : PySem.W.Frag} {w : World} {C C' : Addr}
theorem pure_same (n : Nat) (vs : List V) (H : Hp) (Q : VK) (E : XK) (h : spR (R_same (n + 1)) vs H Q E) : t__law_same K w (spR (R_same n)) E { nx := fun _ H' => Q .non H', rt := Q } (L2.start ["found", "due", "k"] vs) H :=
  spR_body (N := ["found", "due", "k"]) (t := fun E => t__law_same K w (spR (R_same n)) E) h fun ds o hR B F0 D E hr hx hn => by
    obtain ⟨x, hp, rfl, rfl⟩ := hR
    have hsc : scal x ∨ ∃ m, n = m + 1 ∧ ∃ xs, x = .tuple xs ∧ xs.length ≤ 100000 ∧ ∀ y ∈ xs, PlD m y := by
      cases n with
      | zero => exact .inl hp
      | succ m => exact hp.imp id fun h => ⟨m, rfl, h⟩
    rcases hsc with (rfl | ⟨b, rfl⟩ | ⟨i, rfl⟩) | ⟨m, rfl, xs, rfl, hz, hxs⟩
    · exact at_seq (at_ifT (et_test (ev_isN (ev_var (d := .none) rfl))) (at_ret hr (ev_isN (ev_var (d := .none) rfl)) rfl))
    · refine at_seq (at_ifF (et_test (ev_isN (ev_var (d := .bool b) rfl))) (at_next ?_))
      refine at_seq (at_ifT (et_B (ev_isBl (ev_var (d := .bool b) rfl))) (at_ret hr (ev_andV (ev_isBl (ev_var (d := .bool b) rfl)) fun _ => ev_eqB (ev_var rfl) (ev_var rfl)) ?_))
      simp [isBlD]
    · refine at_seq (at_ifF (et_test (ev_isN (ev_var (d := .int i) rfl))) (at_next ?_))
      refine at_seq (at_ifF (et_B (ev_isBl (ev_var (d := .int i) rfl))) (at_next ?_))
      refine at_seq (at_ifT (et_B (ev_isInt (ev_var (d := .int i) rfl))) (at_ret hr (ev_andV (ev_isInt (ev_var (d := .int i) rfl)) fun _ => ev_andV (ev_notV (ev_isBl (ev_var (d := .int i) rfl))) fun _ => ev_eqI (ev_var rfl) (ev_var rfl)) ?_))
      simp [isIntD, isBlD]
    · refine at_seq (at_ifF (et_test (ev_isN (ev_var (d := .tuple xs) rfl))) (at_next ?_))
      refine at_seq (at_ifF (et_B (ev_isBl (ev_var (d := .tuple xs) rfl))) (at_next ?_))
      refine at_seq (at_ifF (et_B (ev_isInt (ev_var (d := .tuple xs) rfl))) (at_next ?_))
      refine at_seq (at_ifF ((et_or (b := false) (et_not (et_B (ev_isTup (ev_var (d := .tuple xs) rfl)))) fun _ => et_test ((ev_neI (ev_len (ev_var (d := .tuple xs) rfl).rt) (ev_len (ev_var (d := .tuple xs) rfl).rt)).is (by simp))).is rfl) (at_next ?_))
      refine at_seq (at_forR (xs := List.range xs.length) (enc := fun i : Nat => .int i) (vs := [2]) (fun t Γ => ∃ x, Γ = [.dat (.tuple xs), .dat (.tuple xs), x]) ⟨_, rfl⟩ (if_rngN (ev_len (ev_var (d := .tuple xs) rfl).rt) hz) (fun x Γ => Γ.set 2 (.dat (.int (x : Nat)))) (fun t x Γ _ _ => tg_name List.mem_cons_self) ?_ ?_)
      · rintro t x Γ hx ⟨y, rfl⟩ F1 H1 gr D' e1 e2 e3 e4
        have ht : t < xs.length := by simpa using (List.getElem?_eq_some_iff.mp hx).1
        rw [List.getElem?_range ht] at hx
        cases hx
        obtain ⟨z, hz2⟩ : ∃ z, xs[t]? = some z := ⟨_, List.getElem?_eq_getElem ht⟩
        refine at_ifF ((et_not (et_B (ev_call (d := .bool true) (ea_cons (ev_ixN (ev_var (d := .tuple xs) rfl).rt (ev_var rfl) hz2) (ea_cons (ev_ixN (ev_var (d := .tuple xs) rfl).rt (ev_var rfl) hz2) ea_nil)) ⟨z, hxs z (List.mem_of_getElem? hz2), rfl, rfl⟩))).is rfl) (at_next (e2 _ ⟨_, rfl⟩))
      · rintro Γ ⟨y, rfl⟩
        exact at_ret hr ev_bl rfl
/-- what _law_same is asked -/
theorem ev_same {n : Nat} {ta tb : TE} {Γ : List Sl} {x y : PyData} {E : XK} (ha : EvD ta Γ x) (hb : EvD tb Γ y) (e : x = y) (hp : PlD n y) : EvD (tCall (spR (R_same (n + 1))) [] E (tCons ta (tCons tb tNil))) Γ (.bool true) :=
  ev_call (ea_cons ha (ea_cons hb ea_nil)) ⟨y, hp, by rw [e], rfl⟩
end
/-! ### masks -/
def maskN (f : Nat → Bool) : Nat → Nat
  | 0 => 0
  | n + 1 => 2 ^ n * (if f n = true then 1 else 0) + maskN f n
theorem mask_lt (f : Nat → Bool) : ∀ n, maskN f n < 2 ^ n
  | 0 => Nat.one_pos
  | n + 1 => by
    have := mask_lt f n
    unfold maskN
    rw [Nat.pow_succ]
    split <;> omega
theorem mask_bit (f : Nat → Bool) (k : Nat) : ∀ n, (maskN f n).testBit k = (decide (k < n) && f k)
  | 0 => by simp [maskN]
  | n + 1 => by
    unfold maskN
    rw [Nat.two_pow_add_eq_or_of_lt (mask_lt f n), Nat.testBit_or, mask_bit f k n]
    cases hf : f n with
    | true =>
      rw [if_pos rfl, Nat.mul_one, Nat.testBit_two_pow]
      by_cases h : n = k
      · subst h; simp [hf]
      · rw [decide_eq_false h, Bool.false_or]
        by_cases h2 : k < n
        · rw [decide_eq_true h2, decide_eq_true (by omega)]
        · rw [decide_eq_false h2, decide_eq_false (by omega)]
    | false =>
      rw [if_neg Bool.false_ne_true, Nat.mul_zero, Nat.zero_testBit, Bool.false_or]
      by_cases h : n = k
      · subst h; simp [hf]
      · by_cases h2 : k < n
        · rw [decide_eq_true h2, decide_eq_true (by omega)]
        · rw [decide_eq_false h2, decide_eq_false (by omega)]
theorem mask_inj {f g : Nat → Bool} {n : Nat} : maskN f n = maskN g n ↔ ∀ k < n, f k = g k := by
  constructor
  · intro h k hk
    have := mask_bit f k n
    rw [h, mask_bit g k n, decide_eq_true hk] at this
    simpa using this.symm
  · intro h
    refine Nat.eq_of_testBit_eq fun k => ?_
    rw [mask_bit, mask_bit]
    by_cases hk : k < n
    · rw [h k hk]
    · rw [decide_eq_false hk]; rfl
theorem mask_or (f g : Nat → Bool) (n : Nat) : maskN f n ||| maskN g n = maskN (fun k => f k || g k) n := by
  refine Nat.eq_of_testBit_eq fun k => ?_
  rw [Nat.testBit_or, mask_bit, mask_bit, mask_bit]
  cases decide (k < n) <;> rfl
theorem mask_one {p n : Nat} (h : p < n) : 2 ^ p = maskN (k0 p) n := by
  refine Nat.eq_of_testBit_eq fun k => ?_
  rw [Nat.testBit_two_pow, mask_bit]
  unfold k0
  by_cases e : p = k
  · subst e; simp [h]
  · simp [e]
theorem mask_full (n : Nat) : maskN (fun _ => true) n = 2 ^ n - 1 := by
  refine Nat.eq_of_testBit_eq fun k => ?_
  rw [mask_bit, Nat.testBit_two_pow_sub_one, Bool.and_true]
theorem mask_test (f : Nat → Bool) {k n : Nat} (h : k < n) : decide (Builtin.bitAnd ((maskN f n : Nat) / 2 ^ ((k : Nat) : Int).toNat) 1 = 1) = f k := by
  rw [bitAnd_m1]
  have e := mask_bit f k n
  rw [decide_eq_true h, Bool.true_and, Nat.testBit_eq_decide_div_mod_eq] at e
  rw [← e, Bool.eq_iff_iff, decide_eq_true_eq, decide_eq_true_eq, Int.toNat_natCast]
  have : ((maskN f n : Nat) : Int) / 2 ^ k % 2 = ((maskN f n / 2 ^ k % 2 : Nat) : Int) := by simp
  rw [this]
  omega
def masksD (N : Nat) (r : Rel) : List PyData := (List.range N).map fun p => .int (maskN (r p) N : Nat)
theorem masks_at {N : Nat} {r : Rel} {p : Nat} (h : p < N) : (masksD N r)[p]? = some (.int (maskN (r p) N : Nat)) := by
  unfold masksD
  rw [List.getElem?_map, List.getElem?_range h]; rfl
theorem masks_len (N : Nat) (r : Rel) : (masksD N r).length = N := by unfold masksD; simp
theorem masks_set {N : Nat} {r : Rel} {i j : Nat} (hi : i < N) (hj : j < N) {m : Nat} (hm : m = maskN (fun k => r i k || r j k) N) : ((masksD N r).set i (.int (m : Nat))).set j (.int (m : Nat)) = masksD N (stp r (i, j)) := by
  subst hm
  refine rows_ext (N := N) (by rw [List.length_set, List.length_set, masks_len]) (masks_len _ _) fun p hp => ?_
  rw [masks_at hp, List.getElem?_set, List.getElem?_set, List.length_set, masks_len, masks_at hp]
  unfold stp
  by_cases h1 : j = p
  · subst h1
    rw [if_pos rfl, if_pos hp]
    simp
  · rw [if_neg h1]
    by_cases h2 : i = p
    · subst h2
      rw [if_pos rfl, if_pos hp]
      simp
    · rw [if_neg h2]
      simp [Ne.symm h1, Ne.symm h2]
theorem same_masks {N : Nat} {r : Rel} {i j : Nat} (hi : i < N) (hj : j < N) :
    (decide (maskN (r i) N = maskN (fun k => r i k || r j k) N) && decide (maskN (r j) N = maskN (fun k => r i k || r j k) N)) = sameB N r (stp r (i, j)) := by
  rw [Bool.eq_iff_iff, Bool.and_eq_true, decide_eq_true_eq, decide_eq_true_eq, mask_inj, mask_inj, sameB_iff]
  constructor
  · rintro ⟨h1, h2⟩ p hp k hk
    unfold stp
    by_cases e : p = i ∨ p = j
    · rw [if_pos e]
      rcases e with rfl | rfl
      · exact h1 k hk
      · exact h2 k hk
    · rw [if_neg e]
  · intro h
    have e1 := h i hi
    have e2 := h j hj
    unfold stp at e1 e2
    simp only [true_or, or_true, if_true] at e1 e2
    exact ⟨e1, e2⟩
/-! ### the law's walk -/
def fnlT (N : Nat) (cs : Cs) (t : Nat) : Option Nat := (List.range t).find? fun t => sameB N (kn (cs.take t)) (kn (cs.take (t + 1)))
theorem fnlT_succ (N : Nat) (cs : Cs) (t : Nat) : fnlT N cs (t + 1) = match fnlT N cs t with | some s => some s | none => if sameB N (kn (cs.take t)) (kn (cs.take (t + 1))) = true then some t else none := by
  unfold fnlT
  rw [List.range_succ, List.find?_append]
  cases List.find? (fun t => sameB N (kn (cs.take t)) (kn (cs.take (t + 1)))) (List.range t) with
  | some s => rfl
  | none =>
    cases h : sameB N (kn (cs.take t)) (kn (cs.take (t + 1))) <;> simp [List.find?, h]
def walkD (N : Nat) (cs : Cs) : PyData := .list [.list (masksD N (kn cs)), optD (fnl N cs)]
def R_walk (ds : List PyData) (o : Out) : Prop := ∃ N cs, GoodC N cs ∧ ds = [.int (N : Nat), encCs cs] ∧ o = .ok (walkD N cs)
theorem encCs_at {cs : Cs} {t : Nat} {c : Nat × Nat} (h : cs[t]? = some c) : (cs.map encP)[t]? = some (encP c) := by rw [List.getElem?_map, h]; rfl
section
variable {K : PySem.W.Frag} {w : World} {C C' : Addr}
theorem isNon_opt (o : Option Nat) : isNon (optD o) = o.isNone := by cases o <;> rfl
theorem pure_walk (vs : List V) (H : Hp) (Q : VK) (E : XK) (h : spR R_walk vs H Q E) : t__law_walk K w E { nx := fun _ H' => Q .non H', rt := Q } (L2.start ["n", "calls", "known", "needless", "at", "one", "other", "both", "k"] vs) H :=
  spR_body (N := ["n", "calls", "known", "needless", "at", "one", "other", "both", "k"]) (t := fun E => t__law_walk K w E) h fun ds o hR B F0 D E hr hx hn => by
    obtain ⟨N, cs, hg, rfl, rfl⟩ := hR
    have hN : N ≤ 6 := hg.2.1
    have h40 := hg.2.2.1
    refine at_seq (at_asgN (ds := masksD N k0) ((en_lcM (xs := List.range N) (enc := fun i : Nat => .int i) (f := fun p : Nat => .int (maskN (k0 p) N : Nat)) (Γx := fun x => [.dat (.int (N : Nat)), .dat (encCs cs), .no, .no, .no, .no, .no, .no, .dat (.int (x : Nat))])
      (if_rngN (ev_var rfl) (by omega)).h (by simp; omega) (fun x _ => tg_name List.mem_cons_self) fun p hp => ?_)) ?_)
    · have hp := List.mem_range.mp hp
      refine (ev_shl ev_int (ev_var rfl) ⟨by omega, by omega, by decide⟩).is ?_
      rw [← mask_one hp, Int.toNat_natCast, Int.one_mul]; simp
    dsimp only
    refine at_seq (t := tAsg (tC .non) (gName 3)) ?_
    refine at_asg (d := .none) (i := 3) ev_non ?_
    refine at_seq (at_forR (xs := List.range cs.length) (enc := fun i : Nat => .int i) (vs := [4]) (fun t Γ => ∃ a b c d, Γ = [.dat (.int (N : Nat)), .dat (encCs cs), .own (masksD N (kn (cs.take t))), .dat (optD (fnlT N cs t)), a, b, c, d, .no]) ⟨_, _, _, _, rfl⟩
      (if_rngN ((ev_len (ev_var (d := encCs cs) rfl).rt).is (by rw [List.length_map])) (by omega)) (fun x Γ => Γ.set 4 (.dat (.int (x : Nat)))) (fun t x Γ _ _ => tg_name List.mem_cons_self) ?_ ?_)
    · rintro t x Γ hx ⟨a, b, c', d, rfl⟩ F1 H1 gr D' e1 e2 e3 e4
      have ht : t < cs.length := by simpa using (List.getElem?_eq_some_iff.mp hx).1
      rw [List.getElem?_range ht] at hx
      cases hx
      obtain ⟨c, hc⟩ : ∃ c, cs[t]? = some c := ⟨_, List.getElem?_eq_getElem ht⟩
      obtain ⟨hlt, hj⟩ := hg.2.2.2 c (List.mem_of_getElem? hc)
      have hi : c.1 < N := by omega
      refine at_seq (at_asg (ev_ixN (n := 0) (ev_ixN (d := encP c) (ev_var (d := encCs cs) rfl).rt (ev_var rfl) (encCs_at hc)).rt ev_int rfl) ?_)
      refine at_seq (at_asg (ev_ixN (n := 1) (ev_ixN (d := encP c) (ev_var (d := encCs cs) rfl).rt (ev_var rfl) (encCs_at hc)).rt ev_int rfl) ?_)
      refine at_seq (at_asg (d := .int (maskN (fun k => kn (cs.take t) c.1 k || kn (cs.take t) c.2 k) N : Nat)) ((ev_bor (ev_ixN (rl_own rfl).s (ev_var rfl) (masks_at hi)) (ev_ixN (rl_own rfl).s (ev_var rfl) (masks_at hj))).is ?_) ?_)
      · rw [bitOr_nn (by omega) (by omega), Int.toNat_natCast, Int.toNat_natCast, mask_or]
      have key : At pc0 B F1 [.dat (.int (N : Nat)), .dat (encCs cs), .own (masksD N (kn (cs.take t))), .dat (optD (fnlT N cs (t + 1))), .dat (.int (t : Nat)), .dat (.int (c.1 : Nat)), .dat (.int (c.2 : Nat)), .dat (.int (maskN (fun k => kn (cs.take t) c.1 k || kn (cs.take t) c.2 k) N : Nat)), .no]
          (tSeq (tAsg (tVar 7) (gSub (tVar 2) (tVar 5) rSetL)) (tAsg (tVar 7) (gSub (tVar 2) (tVar 6) rSetL)) D') := by
        refine at_seq (at_setL (k := c.1) rfl (ev_var rfl) (ev_var rfl) (ixN_nat (by rw [masks_len]; exact hi)) ?_)
        refine at_setL (k := c.2) rfl (ev_var rfl) (ev_var rfl) (ixN_nat (by rw [List.length_set, masks_len]; exact hj)) (e2 _ ?_)
        rw [masks_set hi hj rfl, ← kn_take hc]
        exact ⟨_, _, _, _, rfl⟩
      refine at_seq (at_if (b := (fnlT N cs t).isNone && sameB N (kn (cs.take t)) (kn (cs.take (t + 1)))) (et_and ((et_test (ev_isN (ev_var rfl))).is (by rw [isNon_opt])) fun _ => ?_) (fun hb => ?_) fun hb => ?_)
      · rw [kn_take hc, ← same_masks hi hj]
        refine (et_and (et_test (ev_eqI (ev_ixN (rl_own rfl).s (ev_var rfl) (masks_at hi)) (ev_var rfl))) fun _ => et_test (ev_eqI (ev_ixN (rl_own rfl).s (ev_var rfl) (masks_at hj)) (ev_var rfl))).is ?_
        simp only [Int.ofNat_inj]
      · refine at_asg (ev_var rfl) ?_
        rw [Bool.and_eq_true] at hb
        have e : fnlT N cs (t + 1) = some t := by
          rw [fnlT_succ, Option.isNone_iff_eq_none.mp hb.1, hb.2]; rfl
        rw [e] at key
        exact key
      · refine at_next ?_
        have e : fnlT N cs (t + 1) = fnlT N cs t := by
          rw [fnlT_succ]
          cases hf : fnlT N cs t with
          | some s => rfl
          | none =>
            rw [hf] at hb
            have hs : sameB N (kn (cs.take t)) (kn (cs.take (t + 1))) = false := hb
            rw [hs]; rfl
        rw [e] at key
        exact key
    · rintro Γ ⟨a, b, c', d, rfl⟩
      rw [List.length_range, List.take_length]
      refine at_frz 2 rfl (at_ret hr (en_lst (ea_cons (ev_var rfl) (ea_cons (ev_var rfl) ea_nil)) (by simp)).fz rfl)
end
end Eh

namespace Eh
open PySem PySem.Spec PyProof.Rows L2
/-! ### the talk laws: what several lean on -/
section
variable {K : PySem.W.Frag} {w : World} {C C' : Addr}
theorem cut_to {α : Type} (xs : List α) (t : Nat) : cutD xs none (some (t : Int)) = xs.take t := by
  unfold cutD
  rw [HT.sIx_none, HT.sIx_nat, List.drop_zero, Nat.sub_zero]
  by_cases h : t ≤ xs.length
  · rw [Nat.min_eq_left h]
  · rw [Nat.min_eq_right (by omega), List.take_length, List.take_of_length_le (by omega)]
theorem cut_from {α : Type} (xs : List α) (t : Nat) : cutD xs (some (t : Int)) none = xs.drop t := by
  unfold cutD
  rw [HT.sIx_none, HT.sIx_nat]
  by_cases h : t ≤ xs.length
  · rw [Nat.min_eq_left h, List.take_of_length_le (by rw [List.length_drop]; omega)]
  · rw [Nat.min_eq_right (by omega), List.drop_length, List.drop_of_length_le (by omega), List.take_nil]
theorem cut_last {α : Type} (xs : List α) : cutD xs none (some (-1)) = xs.dropLast := by
  unfold cutD
  rw [HT.sIx_none, List.drop_zero, List.dropLast_eq_take]
  have e : HT.sIx xs.length xs.length (some (-1)) = xs.length - 1 := by
    show (if (-1 : Int) < 0 then ((-1 : Int) + (xs.length : Int)).toNat else min (-1 : Int).toNat xs.length) = _
    rw [if_pos (by decide)]
    omega
  rw [e, Nat.sub_zero]
theorem rowsD_congr {N : Nat} {r s : Rel} (h : Same N r s) : rowsD N r = rowsD N s := by
  unfold rowsD lotD
  refine List.map_congr_left fun p hp => ?_
  rw [filter_eq_iff.mpr (h p (List.mem_range.mp hp))]
theorem masksD_congr {N : Nat} {r s : Rel} (h : Same N r s) : masksD N r = masksD N s := by
  unfold masksD
  refine List.map_congr_left fun p hp => ?_
  rw [mask_inj.mpr (h p (List.mem_range.mp hp))]
def R_lots (ds : List PyData) (o : Out) : Prop := ∃ N r, N ≤ 6 ∧ ds = [.int (N : Nat), .list (masksD N r)] ∧ o = .ok (.tuple (rowsD N r))
def rT (r : Rel) : Rel := fun p k => r k p
theorem good_rev {N : Nat} {cs : Cs} (h : GoodC N cs) : GoodC N cs.reverse := ⟨h.1, h.2.1, by rw [List.length_reverse]; exact h.2.2.1, fun c hc => h.2.2.2 c (List.mem_reverse.mp hc)⟩
theorem pl_lot {n N : Nat} {f : Nat → Bool} (h : N ≤ 6) : PlD (n + 1) (lotD N f) := pl_tup (by have := lot_len N f; simp; omega) fun x hx => by
  obtain ⟨k, _, rfl⟩ := List.mem_map.mp hx
  exact pl_int
theorem pl_rows {n N : Nat} {r : Rel} (h : N ≤ 6) : PlD (n + 2) (.tuple (rowsD N r)) := pl_tup (by rw [rows_len]; omega) fun x hx => by
  obtain ⟨k, _, rfl⟩ := List.mem_map.mp hx
  exact pl_lot h
theorem allB_congr {N : Nat} {r s : Rel} (h : Same N r s) : allB N r = allB N s := by
  unfold allB
  rw [Bool.eq_iff_iff, List.all_eq_true, List.all_eq_true]
  constructor <;> intro g p hp <;> have := g p hp <;> rw [List.all_eq_true] at this ⊢ <;> intro k hk
  · rw [← h p (List.mem_range.mp hp) k (List.mem_range.mp hk)]; exact this k hk
  · rw [h p (List.mem_range.mp hp) k (List.mem_range.mp hk)]; exact this k hk
theorem none_short (N : Nat) (r : Rel) : decide ((((List.range N).filter fun p => decide (((((List.range N).filter (r p)).map fun k : Nat => PyData.int k).length : Int) < (N : Nat))).length : Int) = 0) = allB N r := by
  have e : ∀ p, decide (((((List.range N).filter (r p)).map fun k : Nat => PyData.int k).length : Int) < (N : Nat)) = !((List.range N).all (r p)) := fun p => by
    rw [← all_len (r p)]
    have := lot_len N (r p)
    rw [List.length_map, Bool.eq_iff_iff]
    simp only [decide_eq_true_eq, Bool.not_eq_true', decide_eq_false_iff_not]
    omega
  simp only [e]
  unfold allB
  rw [Bool.eq_iff_iff, decide_eq_true_eq, List.all_eq_true]
  constructor
  · intro h p hp
    have h0 : (List.range N).filter (fun p => !((List.range N).all (r p))) = [] := List.length_eq_zero_iff.mp (by omega)
    have := List.filter_eq_nil_iff.mp h0 p hp
    simpa using this
  · intro h
    have h0 : (List.range N).filter (fun p => !((List.range N).all (r p))) = [] := List.filter_eq_nil_iff.mpr fun p hp => by
      rw [h p hp]; decide
    rw [h0]; rfl
theorem good_cut {N : Nat} {cs : Cs} {t : Nat} (h : GoodC N cs) : GoodC N (cs.take t ++ cs.drop (t + 1)) := ⟨h.1, h.2.1, by
  have := h.2.2.1
  rw [List.length_append, List.length_take, List.length_drop]; omega, fun c hc => h.2.2.2 c (mem_cut hc)⟩
def intsD (xs : List Nat) : List PyData := xs.map fun k : Nat => .int k
theorem ei_take {C : Pc} {Γ : List Sl} {E : XK} {i : Nat} {n : Int} {ta : TE} (hC : Pl C) (hp : Γ[i]? = some .pool) (h : EvD ta Γ (.int n)) (h0 : 0 < n) (h1 : n < 1073741824) :
    EvI C (tCall sp__law_take [] E (tCons (tVar i) (tCons ta tNil))) Γ (fun r => 0 ≤ r ∧ r < n) :=
  EvR.int (er_call hC hp (ear_d (ea_cons h ea_nil)) fun ds e => by
    subst e
    exact ⟨⟨n, rfl, h0, h1⟩, fun d ⟨m, r, e1, e2, e3, e4⟩ => by cases e1; exact ⟨r, ⟨e3, e4⟩, e2⟩⟩)
theorem perm_pop {xs ys zs : List Nat} {m d : Nat} (h : (xs ++ ys).Perm zs) (hm : ys[m]? = some d) : ((xs ++ [d]) ++ ys.eraseIdx m).Perm zs := by
  refine List.Perm.trans ?_ h
  rw [List.append_assoc]
  refine List.Perm.append_left _ ?_
  have hl := (List.getElem?_eq_some_iff.mp hm)
  obtain ⟨hlt, e⟩ := hl
  have : ys = ys.take m ++ d :: ys.drop (m + 1) := by
    rw [← e, List.getElem_cons_drop, List.take_append_drop]
  rw [List.eraseIdx_eq_take_drop_succ]
  conv => rhs; rw [this]
  show (d :: (ys.take m ++ ys.drop (m + 1))).Perm _
  exact List.perm_middle.symm
theorem at_perm {xs : List Nat} {N i : Nat} (h : xs.Perm (List.range N)) (hi : i < N) : ∃ m, xs[i]? = some m ∧ m < N := by
  have hl : xs.length = N := by rw [h.length_eq, List.length_range]
  exact ⟨xs[i], List.getElem?_eq_getElem (by omega), List.mem_range.mp (h.mem_iff.mp (List.getElem_mem _))⟩
theorem perm_ne {xs : List Nat} {N i j a b : Nat} (h : xs.Perm (List.range N)) (hi : xs[i]? = some a) (hj : xs[j]? = some b) (hij : i ≠ j) : a ≠ b := fun e => by
  have hn : xs.Nodup := h.nodup_iff.mpr List.nodup_range
  subst e
  obtain ⟨h1, e1⟩ := List.getElem?_eq_some_iff.mp hi
  obtain ⟨h2, e2⟩ := List.getElem?_eq_some_iff.mp hj
  exact hij ((List.getElem_inj hn).mp (e1.trans e2.symm))
theorem ints_at {xs : List Nat} {i m : Nat} (h : xs[i]? = some m) : (intsD xs)[i]? = some (.int (m : Nat)) := by unfold intsD; rw [List.getElem?_map, h]; rfl
theorem pair_lt {N a b : Nat} (ha : a < N) (hb : b < N) (h : a ≠ b) : ∃ c : Nat × Nat, c.1 < c.2 ∧ c.2 < N ∧ (PyData.tuple [.int (if (b : Int) < (a : Int) then (b : Int) else a), .int (if (b : Int) > (a : Int) then (b : Int) else a)]) = encP c := by
  by_cases e : (b : Int) < (a : Int)
  · exact ⟨(b, a), by show b < a; omega, ha, by rw [if_pos e, if_neg (by omega)]; rfl⟩
  · exact ⟨(a, b), by show a < b; omega, hb, by rw [if_neg e, if_pos (by omega)]; rfl⟩
def GoodL (N : Nat) (cs : Cs) : Prop := ∀ c ∈ cs, c.1 < c.2 ∧ c.2 < N
theorem min_ex : ∀ (ns : List Int), ns ≠ [] → ∃ m ∈ ns, ∀ k ∈ ns, m ≤ k
  | [], h => absurd rfl h
  | [a], _ => ⟨a, List.mem_singleton.mpr rfl, fun k hk => by rw [List.mem_singleton.mp hk]; exact Int.le_refl _⟩
  | a :: b :: l, _ => by
    obtain ⟨m, hm, hl⟩ := min_ex (b :: l) (by simp)
    by_cases h : a ≤ m
    · exact ⟨a, List.mem_cons_self, fun k hk => (List.mem_cons.mp hk).elim (fun e => by rw [e]; exact Int.le_refl _) fun h2 => Int.le_trans h (hl k h2)⟩
    · exact ⟨m, List.mem_cons_of_mem _ hm, fun k hk => (List.mem_cons.mp hk).elim (fun e => by omega) fun h2 => hl k h2⟩
theorem masks_ints (N : Nat) (r : Rel) : masksD N r = ((List.range N).map fun p => ((maskN (r p) N : Nat) : Int)).map .int := by unfold masksD; rw [List.map_map]; rfl
theorem min_full {N : Nat} {r : Rel} {m : Int} (hm : m ∈ (List.range N).map fun p => ((maskN (r p) N : Nat) : Int)) (hl : ∀ k ∈ (List.range N).map fun p => ((maskN (r p) N : Nat) : Int), m ≤ k) : decide (m = 1 * 2 ^ ((N : Nat) : Int).toNat - 1) = allB N r := by
  have full : ∀ p, maskN (r p) N = 2 ^ N - 1 ↔ (List.range N).all (r p) = true := fun p => by
    rw [← mask_full, mask_inj, List.all_eq_true]
    simp
  have h2 : (1 : Int) * 2 ^ ((N : Nat) : Int).toNat - 1 = ((2 ^ N - 1 : Nat) : Int) := by
    rw [Int.one_mul, Int.toNat_natCast]
    have : 0 < 2 ^ N := Nat.two_pow_pos N
    rw [Int.natCast_sub (by omega)]
    simp
  rw [h2, Bool.eq_iff_iff, decide_eq_true_eq]
  unfold allB
  rw [List.all_eq_true]
  constructor
  · intro e p hp
    have h1 := hl _ (List.mem_map.mpr ⟨p, hp, rfl⟩)
    have h3 := mask_lt (r p) N
    exact (full p).mp (by omega)
  · intro h
    obtain ⟨p, hp, rfl⟩ := List.mem_map.mp hm
    rw [(full p).mpr (h p hp)]
theorem eqv_masks (N : Nat) (r s : Rel) : PyData.eqv (.list (masksD N r)) (.list (masksD N s)) = sameB N r s := by
  show PyData.eqvAll (masksD N r) (masksD N s) = _
  unfold masksD
  rw [eqvAll_rows, Bool.eq_iff_iff, sameB_iff, List.all_eq_true]
  constructor
  · intro h p hp
    have := h p (List.mem_range.mpr hp)
    have e : (((maskN (r p) N : Nat) : Int) == ((maskN (s p) N : Nat) : Int)) = true := this
    rw [beq_iff_eq, Int.ofNat_inj, mask_inj] at e
    exact e
  · intro h p hp
    show (((maskN (r p) N : Nat) : Int) == ((maskN (s p) N : Nat) : Int)) = true
    rw [beq_iff_eq, Int.ofNat_inj, mask_inj]
    exact h p (List.mem_range.mp hp)
theorem sh_masks (N : Nat) (r : Rel) : SeqAt.shaped (.list (masksD N r)) = true := by
  refine (shN_list (n := 0) fun d hd => ?_).sh (by decide)
  obtain ⟨p, _, rfl⟩ := List.mem_map.mp hd
  exact shN_int _
theorem pl_graph {N : Nat} (h : N ≤ 6) (cs : Cs) {n : Nat} : PlD (n + 1) (graphD N cs) := pl_tup (by simp; omega) fun x hx => by
  obtain ⟨k, _, rfl⟩ := List.mem_map.mp hx
  exact pl_int
end
end Eh

namespace Eh
open PySem PySem.Spec PyProof.Rows L2
/-! ### knowledge grows; a closing row -/
theorem stp_mono {r : Rel} {c : Nat × Nat} {p k : Nat} (h : r p k = true) : stp r c p k = true := by
  unfold stp
  by_cases e : p = c.1 ∨ p = c.2
  · rw [if_pos e]
    rcases e with rfl | rfl
    · rw [h]; rfl
    · rw [h, Bool.or_true]
  · rw [if_neg e]; exact h
theorem fold_mono {cs : Cs} : ∀ {r : Rel} {p k : Nat}, r p k = true → cs.foldl stp r p k = true := by
  induction cs with
  | nil => exact fun h => h
  | cons c cs ih => exact fun h => ih (stp_mono h)
theorem kn_app (xs ys : Cs) : kn (xs ++ ys) = ys.foldl stp (kn xs) := by unfold kn; rw [List.foldl_append]
theorem allB_iff {N : Nat} {r : Rel} : allB N r = true ↔ ∀ p < N, ∀ k < N, r p k = true := by
  unfold allB
  simp [List.all_eq_true]
theorem allB_mono {N : Nat} {xs ys : Cs} (h : allB N (kn xs) = true) : allB N (kn (xs ++ ys)) = true := by
  rw [allB_iff] at h ⊢
  intro p hp k hk
  rw [kn_app]
  exact fold_mono (h p hp k hk)
theorem allB_take {N : Nat} {cs : Cs} {s t : Nat} (hst : s ≤ t) (h : allB N (kn (cs.take s)) = true) : allB N (kn (cs.take t)) = true := by
  have e : cs.take t = cs.take s ++ (cs.take t).drop s := by
    have := List.take_append_drop s (cs.take t)
    rw [List.take_take, Nat.min_eq_left hst] at this
    exact this.symm
  rw [e]
  exact allB_mono h
def star (m : Nat) : Cs := (List.range m).map fun k => (0, k + 1)
theorem star_succ (m : Nat) : star (m + 1) = star m ++ [(0, m + 1)] := by unfold star; rw [List.range_succ, List.map_append]; rfl
theorem star_one {r : Rel} (hr : ∀ p, r p p = true) : ∀ m, (∀ k ≤ m, (star m).foldl stp r 0 k = true) ∧ (1 ≤ m → ∀ k, (star m).foldl stp r m k = (star m).foldl stp r 0 k)
  | 0 => ⟨fun k hk => by have e : k = 0 := by omega
                         subst e; exact hr 0, fun h => absurd h (by decide)⟩
  | m + 1 => by
    obtain ⟨h1, _⟩ := star_one hr m
    rw [star_succ, List.foldl_append]
    show (∀ k ≤ m + 1, stp ((star m).foldl stp r) (0, m + 1) 0 k = true) ∧ (1 ≤ m + 1 → ∀ k, stp ((star m).foldl stp r) (0, m + 1) (m + 1) k = stp ((star m).foldl stp r) (0, m + 1) 0 k)
    refine ⟨fun k hk => ?_, fun _ k => ?_⟩
    · unfold stp
      rw [if_pos (.inl rfl)]
      by_cases e : k ≤ m
      · show ((star m).foldl stp r 0 k || _) = true
        rw [h1 k e]; rfl
      · have e2 : k = m + 1 := by omega
        subst e2
        show (_ || (star m).foldl stp r (m + 1) (m + 1)) = true
        rw [fold_mono (hr (m + 1)), Bool.or_true]
    · unfold stp
      rw [if_pos (.inr rfl), if_pos (.inl rfl)]
theorem star_two {N : Nat} {r : Rel} (h0 : ∀ k < N, r 0 k = true) : ∀ m, ∀ p ≤ m, ∀ k < N, (star m).foldl stp r p k = true
  | 0 => fun p hp k hk => by
    have e : p = 0 := by omega
    subst e; exact h0 k hk
  | m + 1 => fun p hp k hk => by
    have ih := star_two h0 m
    rw [star_succ, List.foldl_append]
    show stp ((star m).foldl stp r) (0, m + 1) p k = true
    by_cases e : p ≤ m
    · exact stp_mono (ih p e k hk)
    · have e2 : p = m + 1 := by omega
      subst e2
      unfold stp
      rw [if_pos (.inr rfl)]
      show ((star m).foldl stp r 0 k || _) = true
      rw [ih 0 (Nat.zero_le _) k hk]; rfl
def closing (N : Nat) : Cs := star (N - 1) ++ star (N - 2)
theorem kn_refl (cs : Cs) (p : Nat) : kn cs p p = true := fold_mono (cs := cs) (decide_eq_true rfl)
/-- behind the closing row everybody knows everything -/
theorem closing_all {N : Nat} (hN : 2 ≤ N) (cs : Cs) : allB N (kn (cs ++ closing N)) = true := by
  rw [allB_iff]
  unfold closing
  rw [← List.append_assoc, kn_app, kn_app]
  obtain ⟨h1, h2⟩ := star_one (r := kn cs) (kn_refl cs) (N - 1)
  intro p hp k hk
  by_cases e : p ≤ N - 2
  · exact star_two (fun k hk => h1 k (by omega)) (N - 2) p e k hk
  · have e2 : p = N - 1 := by omega
    subst e2
    refine fold_mono ?_
    rw [h2 (by omega) k]
    exact h1 k (by omega)
theorem star_good {N m : Nat} (h : m < N) : GoodL N (star m) := fun c hc => by
  obtain ⟨k, hk, rfl⟩ := List.mem_map.mp hc
  have := List.mem_range.mp hk
  exact ⟨Nat.succ_pos k, by show k + 1 < N; omega⟩
theorem closing_good {N : Nat} (h : 2 ≤ N) : GoodL N (closing N) := fun c hc => (List.mem_append.mp hc).elim (star_good (by omega) c) (star_good (by omega) c)
theorem closing_len (N : Nat) : (closing N).length = (N - 1) + (N - 2) := by unfold closing star; simp
theorem not_all_nil {N : Nat} (h : 2 ≤ N) : allB N (kn []) = false := by
  cases e : allB N (kn []) with
  | false => rfl
  | true =>
    have := allB_iff.mp e 0 (by omega) 1 (by omega)
    cases this
theorem allB_rep {N : Nat} {cs xs : Cs} (h : allB N (kn cs) = true) : allB N (kn (cs ++ xs)) = true := allB_mono h
section
variable {K : PySem.W.Frag} {w : World} {C C' : Addr}
/-- [(0, k) for k in range(1, j + 1)] -/
theorem en_star {te : TE} {Γ Γ0 : List Sl} {q j : Nat} (he : EvD te Γ (.int ((j + 1 : Nat) : Int))) (hj : j ≤ 10) (h0 : wipeG Γ [q] = Γ0) (hq : q < Γ0.length) :
    EvN (tLc (iRng2 (tCons (tC (.int 1)) (tCons te tNil))) (gName q) tYes (tTup (tCons (tC (.int 0)) (tCons (tVar q) tNil))) [q]) Γ ((star j).map encP) := by
  have hi := (if_rng2 (ts := tCons (tC (.int 1)) (tCons te tNil)) (ea_cons ev_int (ea_cons he ea_nil)) (by decide) (by decide) (by omega) (by omega)).h
  rw [show (((j + 1 : Nat) : Int) - 1).toNat = j by omega] at hi
  refine (en_lcM (xs := List.range j) (enc := fun k : Nat => .int (1 + (k : Int))) (f := fun k => encP (0, k + 1)) (Γx := fun k => Γ0.set q (.dat (.int (1 + (k : Int))))) hi (by simp; omega) (fun k _ => ?_) fun k _ => ?_).is (by unfold star; rw [List.map_map]; rfl)
  · rw [h0]
    exact tg_name List.mem_cons_self
  · refine (ev_tup (ea_cons ev_int (ea_cons (ev_var (by rw [List.getElem?_set_self hq])) ea_nil)) (by simp)).is ?_
    rw [show (1 : Int) + (k : Int) = ((k + 1 : Nat) : Int) by omega]; rfl
end
/-! ### what a refusal says of its error -/
def KindsOk (K : PySem.W.Frag) (c : Addr) (cs : List Addr) (j : Nat) : Prop := ∀ m X, cs[m]? = some X → PySem.W.kitOne K (.ref c) (.ref X) = some (decide (m = j))
structure ErrOk (K : PySem.W.Frag) (c J : Addr) (cs : List Addr) (j : Nat) : Prop where
  exc : ExcC K c
  kinds : KindsOk K c cs j
  ve : PySem.W.kitOne K (.ref c) (.type "ValueError") = some true
  exm : PySem.W.exmOne K (.ref c) (.ref J) = some true
def errB (K : PySem.W.Frag) (c J : Addr) (cs : List Addr) (j : Nat) : Bool := excCB K c && (cs.zipIdx.all (fun p => kitNB K c (.ref p.1) (decide (p.2 = j))) && (kitNB K c (.type "ValueError") true && exmNB K c J true))
theorem errB_ok {K : PySem.W.Frag} {c J : Addr} {cs : List Addr} {j : Nat} (h : errB K c J cs j = true) : ErrOk K c J cs j := by
  unfold errB at h
  rw [Bool.and_eq_true, Bool.and_eq_true, Bool.and_eq_true] at h
  obtain ⟨h1, h2, h3, h4⟩ := h
  refine ⟨excCB_ok h1, fun m X e => ?_, of_decide_eq_true h3, of_decide_eq_true h4⟩
  have := List.all_eq_true.mp h2 (X, m) (List.mem_of_getElem? (i := m) (by rw [zip_get, e]; simp))
  exact of_decide_eq_true this
def refD (j : List Nat) (place : PyData) : PyData := .list [.tuple (j.map fun k : Nat => .int k), place]
/-- what a refusal hands back: nothing raised, the first, the second error -/
def ChkR (n d : PyData) (j : List Nat) : Prop := (j = [] ∧ ∃ N cs, GoodC N cs ∧ n = .int (N : Nat) ∧ d = encCs cs) ∨
  (TupLe 100000 d ∧ (fromTo n 2 6 = false ∧ j = [0] ∨ fromTo n 2 6 = true ∧ okCalls d (intOf n) = false ∧ j = [1]))
theorem ev_idx {K : PySem.W.Frag} {Γ : List Sl} {i q : Nat} {bs : List Bool} {m : Nat} {b : Bool} (hi : Γ[i]? = some (.own (bs.map .bool))) (hq : Γ[q]? = some (.dat (.int (m : Nat)))) (hb : bs[m]? = some b) : EvT (tB (tOp (rIx K) (tVar i) (tVar q))) Γ b :=
  et_B (ev_ixN (rl_own hi).s (ev_var hq) (by rw [List.getElem?_map, hb]; rfl))
/-- [k for k in range(n) if kinds[k]], kinds what holds at one place alone -/
theorem filter_at {n j : Nat} (h : j < n) : (List.range n).filter (fun k => decide (k = j)) = [j] := by
  induction n with
  | zero => exact absurd h (Nat.not_lt_zero _)
  | succ n ih =>
    rw [List.range_succ, List.filter_append]
    by_cases e : j < n
    · rw [ih e]
      have : ([n] : List Nat).filter (fun k => decide (k = j)) = [] := by
        rw [List.filter_cons_of_neg (by simp; omega)]; rfl
      rw [this]; rfl
    · have e2 : j = n := by omega
      subst e2
      have : (List.range j).filter (fun k => decide (k = j)) = [] := List.filter_eq_nil_iff.mpr fun k hk => by
        have := List.mem_range.mp hk
        simp; omega
      rw [this]
      simp
/-- the suite of a refusal of the talk laws: e at i, kinds at g, place at p, the block's k at q -/
def tKinds (K : PySem.W.Frag) (i g p q : Nat) (BN BC BG BR BD BL BS BT BX BW ND NT TL : Addr) (a : Addr) (cls : Value) (d : Option Addr) : TS :=
  (tSeq (tAsg (tLst (tCons (tCB (rIsX K a cls d) (tCons (tVar i) (tCons (tC (.ref BN)) tNil))) (tCons (tCB (rIsX K a cls d) (tCons (tVar i) (tCons (tC (.ref BC)) tNil))) (tCons (tCB (rIsX K a cls d) (tCons (tVar i) (tCons (tC (.ref BG)) tNil))) (tCons (tCB (rIsX K a cls d) (tCons (tVar i) (tCons (tC (.ref BR)) tNil))) tNil))))) (gName g))
    (tSeq (tAsg (tOp (rAddA K) (tVar g) (tLst (tCons (tCB (rIsX K a cls d) (tCons (tVar i) (tCons (tC (.ref BD)) tNil))) (tCons (tCB (rIsX K a cls d) (tCons (tVar i) (tCons (tC (.ref BL)) tNil))) (tCons (tCB (rIsX K a cls d) (tCons (tVar i) (tCons (tC (.ref BS)) tNil))) tNil))))) (gName g))
    (tSeq (tAsg (tOp (rAddA K) (tVar g) (tLst (tCons (tCB (rIsX K a cls d) (tCons (tVar i) (tCons (tC (.ref BT)) tNil))) (tCons (tCB (rIsX K a cls d) (tCons (tVar i) (tCons (tC (.ref BX)) tNil))) (tCons (tCB (rIsX K a cls d) (tCons (tVar i) (tCons (tC (.ref BW)) tNil))) tNil))))) (gName g))
    (tSeq (tAsg (tOp (rAddA K) (tVar g) (tLst (tCons (tCB (rIsX K a cls d) (tCons (tVar i) (tCons (tC (.ref ND)) tNil))) tNil))) (gName g))
    (tSeq (tAsg (tOp (rAddA K) (tVar g) (tLst (tCons (tCB (rIsX K a cls d) (tCons (tVar i) (tCons (tC (.ref NT)) tNil))) (tCons (tCB (rIsX K a cls d) (tCons (tVar i) (tCons (tC (.ref TL)) tNil))) (tCons (tNotV (tCB (rIsX K a cls d) (tCons (tVar i) (tCons (tC (.ty "ValueError")) tNil)))) tNil))))) (gName g))
    (tSeq (tAsg (tC (.int 0)) (gName p))
    (tSeq (tIfS (tB (tCB (rIsX K a cls d) (tCons (tVar i) (tCons (tC (.ref BR)) tNil)))) (tAsg (tXf a cls d BR "place" (tVar i)) (gName p)) tNext)
    (tRet (tLst (tCons (tThen (tLc (iRng1 (tCons (tCB (rLenA K) (tCons (tVar g) tNil)) tNil)) (gName q) (tB (tOp (rIx K) (tVar g) (tVar q))) (tVar q) [q]) (kTup K)) (tCons (tVar p) tNil)))))))))))
abbrev csL (BN BC BG BR BD BL BS BT BX BW ND NT TL : Addr) : List Addr := [BN, BC, BG, BR, BD, BL, BS, BT, BX, BW, ND, NT, TL]
theorem en_catB {K : PySem.W.Frag} {ta tb : TE} {Γ : List Sl} {as bs : List Bool} (ha : RdL ta Γ (as.map .bool)) (hb : EvN tb Γ (bs.map .bool)) (hz : as.length + bs.length ≤ 100000) : EvN (tOp (rAddA K) ta tb) Γ ((as ++ bs).map .bool) :=
  (en_cat ha hb.rl (by rw [List.length_map, List.length_map]; exact hz)).is (List.map_append ..).symm
theorem at_kinds {K : PySem.W.Frag} {i g p q : Nat} {BN BC BG BR BD BL BS BT BX BW ND NT TL J c a : Addr} {jj : Nat} {C : Pc} {B F0 : Hp} {Γ : List Sl} {D : Ends} (hi : Γ[i]? = some (.ref a)) (hig : g ≠ i) (hip : p ≠ i) (hgp : p ≠ g) (hgq : q ≠ g) (hl : g < Γ.length) (hpl : p < Γ.length) (hql : q < Γ.length)
    (hj : jj < 13) (h3 : jj ≠ 3) (he : ErrOk K c J (csL BN BC BG BR BD BL BS BT BX BW ND NT TL) jj) (hr : RetOk C B F0 D (fun d => d = refD [jj] (.int 0))) : At C B F0 Γ (tKinds K i g p q BN BC BG BR BD BL BS BT BX BW ND NT TL a (.ref c) none D) := by
  have kk := he.kinds
  have si : ∀ bs, (Γ.set g (.own bs))[i]? = some (.ref a) := fun bs => by rw [List.getElem?_set_ne hig]; exact hi
  have sg : ∀ bs, (Γ.set g (.own bs))[g]? = some (.own bs) := fun bs => List.getElem?_set_self hl
  have e0 : EvN _ Γ (([decide (0 = jj), decide (1 = jj), decide (2 = jj), decide (3 = jj)] : List Bool).map .bool) := (en_lst (ea_cons (ev_isXr hi he.exc (kk 0 _ rfl)) (ea_cons (ev_isXr hi he.exc (kk 1 _ rfl)) (ea_cons (ev_isXr hi he.exc (kk 2 _ rfl)) (ea_cons (ev_isXr hi he.exc (kk 3 _ rfl)) ea_nil)))) (by simp))
  unfold tKinds
  refine at_seq ?_
  refine at_asgN e0 ?_
  have e1 : EvN _ (Γ.set g (.own (([decide (0 = jj), decide (1 = jj), decide (2 = jj), decide (3 = jj)]).map .bool))) (([decide (4 = jj), decide (5 = jj), decide (6 = jj)] : List Bool).map .bool) := (en_lst (ea_cons (ev_isXr (si _) he.exc (kk 4 _ rfl)) (ea_cons (ev_isXr (si _) he.exc (kk 5 _ rfl)) (ea_cons (ev_isXr (si _) he.exc (kk 6 _ rfl)) ea_nil))) (by simp))
  dsimp only
  have z1 := en_catB (K := K) (rl_own (sg _)) e1 (by simp)
  refine at_seq ?_
  refine at_asgN z1 ?_
  rw [List.set_set]
  have e2 : EvN _ (Γ.set g (.own ((([decide (0 = jj), decide (1 = jj), decide (2 = jj), decide (3 = jj)] ++ [decide (4 = jj), decide (5 = jj), decide (6 = jj)])).map .bool))) (([decide (7 = jj), decide (8 = jj), decide (9 = jj)] : List Bool).map .bool) := (en_lst (ea_cons (ev_isXr (si _) he.exc (kk 7 _ rfl)) (ea_cons (ev_isXr (si _) he.exc (kk 8 _ rfl)) (ea_cons (ev_isXr (si _) he.exc (kk 9 _ rfl)) ea_nil))) (by simp))
  dsimp only
  have z2 := en_catB (K := K) (rl_own (sg _)) e2 (by simp)
  refine at_seq ?_
  refine at_asgN z2 ?_
  rw [List.set_set]
  have e3 : EvN _ (Γ.set g (.own (((([decide (0 = jj), decide (1 = jj), decide (2 = jj), decide (3 = jj)] ++ [decide (4 = jj), decide (5 = jj), decide (6 = jj)]) ++ [decide (7 = jj), decide (8 = jj), decide (9 = jj)])).map .bool))) (([decide (10 = jj)] : List Bool).map .bool) := (en_lst (ea_cons (ev_isXr (si _) he.exc (kk 10 _ rfl)) ea_nil) (by simp))
  dsimp only
  have z3 := en_catB (K := K) (rl_own (sg _)) e3 (by simp)
  refine at_seq ?_
  refine at_asgN z3 ?_
  rw [List.set_set]
  have e4 : EvN _ (Γ.set g (.own ((((([decide (0 = jj), decide (1 = jj), decide (2 = jj), decide (3 = jj)] ++ [decide (4 = jj), decide (5 = jj), decide (6 = jj)]) ++ [decide (7 = jj), decide (8 = jj), decide (9 = jj)]) ++ [decide (10 = jj)])).map .bool))) (([decide (11 = jj), decide (12 = jj), false] : List Bool).map .bool) := (en_lst (ea_cons (ev_isXr (si _) he.exc (kk 11 _ rfl)) (ea_cons (ev_isXr (si _) he.exc (kk 12 _ rfl)) (ea_cons (ev_notV (ev_isXt (si _) he.exc he.ve)) ea_nil))) (by simp))
  dsimp only
  have z4 := en_catB (K := K) (rl_own (sg _)) e4 (by simp)
  refine at_seq ?_
  refine at_asgN z4 ?_
  rw [List.set_set]
  generalize hbs : ((((([decide (0 = jj), decide (1 = jj), decide (2 = jj), decide (3 = jj)] ++ [decide (4 = jj), decide (5 = jj), decide (6 = jj)]) ++ [decide (7 = jj), decide (8 = jj), decide (9 = jj)]) ++ [decide (10 = jj)]) ++ [decide (11 = jj), decide (12 = jj), false]) : List Bool) = bs
  have hlen : bs.length = 14 := by rw [← hbs]; rfl
  have hat : ∀ k < 14, bs[k]? = some (decide (k = jj)) := fun k hk => by
    rw [← hbs]
    match k, hk with
    | 0, _ => rfl
    | 1, _ => rfl
    | 2, _ => rfl
    | 3, _ => rfl
    | 4, _ => rfl
    | 5, _ => rfl
    | 6, _ => rfl
    | 7, _ => rfl
    | 8, _ => rfl
    | 9, _ => rfl
    | 10, _ => rfl
    | 11, _ => rfl
    | 12, _ => rfl
    | 13, _ => show some false = some (decide (13 = jj)); rw [decide_eq_false (by omega)]
    | k + 14, hk => exact absurd hk (by omega)
  dsimp only
  refine at_seq ?_
  refine at_asg ev_int ?_
  dsimp only
  have ti : ((Γ.set g (.own (bs.map .bool))).set p (.dat (.int 0)))[i]? = some (.ref a) := by rw [List.getElem?_set_ne hip]; exact si _
  have tg : ((Γ.set g (.own (bs.map .bool))).set p (.dat (.int 0)))[g]? = some (.own (bs.map .bool)) := by rw [List.getElem?_set_ne hgp]; exact sg _
  have tp : ((Γ.set g (.own (bs.map .bool))).set p (.dat (.int 0)))[p]? = some (.dat (.int 0)) := List.getElem?_set_self (by rw [List.length_set]; exact hpl)
  have tl : q < ((Γ.set g (.own (bs.map .bool))).set p (.dat (.int 0))).length := by rw [List.length_set, List.length_set]; exact hql
  have t3 := (et_B (ev_isXr ti he.exc (kk 3 _ rfl))).is (decide_eq_false (Ne.symm h3))
  refine at_seq ?_
  refine at_ifF t3 (at_next ?_)
  generalize ((Γ.set g (.own (bs.map .bool))).set p (.dat (.int 0))) = Γ2 at ti tg tp tl ⊢
  dsimp only
  refine at_ret hr (en_lst (ea_cons (ev_tupleL (en_lc (xs := List.range 14) (enc := fun k : Nat => .int k) (f := fun k : Nat => .int k) (p := fun k => decide (k = jj)) (Γx := fun k => (wipeG Γ2 [q]).set q (.dat (.int (k : Nat)))) (if_rngN (n := 14) ((ev_len (rl_own tg).s).is (by rw [List.length_map, hlen])) (by decide)).h (by simp) (fun x _ => tg_name List.mem_cons_self) (fun k hk => ?_) fun k _ _ => ev_var (List.getElem?_set_self (by show q < (Γ2.set q Sl.no).length; rw [List.length_set]; exact tl))).rl) (ea_cons (ev_var tp) ea_nil)) (by simp)).fz (by rw [filter_at (by omega)]; rfl)
  exact ev_idx (by show ((Γ2.set q Sl.no).set q _)[g]? = _; rw [List.getElem?_set_ne hgq, List.getElem?_set_ne hgq]; exact tg) (List.getElem?_set_self (by show q < (Γ2.set q Sl.no).length; rw [List.length_set]; exact tl)) (hat k (List.mem_range.mp hk))
end Eh

namespace Eh
open PySem PySem.Spec PyProof.Rows L2
def t__law_drawn_calls (K : PySem.W.Frag) (w : World) (sp__law_take : Sp) (E : XK) : TS :=
  (tSeq (tAsg (tLstRg (tRg1 (tVar 1))) (gName 2))
    (tSeq (tAsg (tLst tNil) (gName 3))
    (tSeq (tFor (iRng1 (tCons (tVar 1) tNil)) (gName 4) (tDrop (tBM K "list" rAppend (tVar 3) (tCons (tBM K "list" rPopAt (tVar 2) (tCons (tCall sp__law_take [] E (tCons (tVar 0) (tCons (tCB (rLenA K) (tCons (tVar 2) tNil)) tNil))) tNil)) tNil))))
    (tSeq (tAsg (tOp (rAddA K) (tC (.int 2)) (tCall sp__law_take [] E (tCons (tVar 0) (tCons (tOp rSubI (tVar 1) (tC (.int 1))) tNil)))) (gName 5))
    (tSeq (tAsg (tOp rSubI (tC (.int 40)) (tOp rSubI (tOp (rMulA K) (tC (.int 2)) (tVar 1)) (tC (.int 3)))) (gName 6))
    (tSeq (tAsg (tCall sp__law_take [] E (tCons (tVar 0) (tCons (tC (.int 4)) tNil))) (gName 7))
    (tSeq (tAsg (tCall sp__law_take [] E (tCons (tVar 0) (tCons (tC (.int 9)) tNil))) (gName 8))
    (tSeq (tIfS (tTest (tOp (rEqA K) (tVar 7) (tC (.int 0)))) (tAsg (tCall sp__law_take [] E (tCons (tVar 0) (tCons (tC (.int 3)) tNil))) (gName 8)) (tIfS (tTest (tOp (rEqA K) (tVar 7) (tC (.int 1)))) (tAsg (tCall sp__law_take [] E (tCons (tVar 0) (tCons (tOp (rAddA K) (tVar 6) (tC (.int 1))) tNil))) (gName 8)) tNext))
    (tSeq (tAsg (tLst tNil) (gName 9))
    (tSeq (tFor (iRng1 (tCons (tVar 8) tNil)) (gName 4) (tIfS (tAnd (tTest (tOp rGtI (tVar 4) (tC (.int 0)))) (tTest (tOp (rEqA K) (tCall sp__law_take [] E (tCons (tVar 0) (tCons (tC (.int 4)) tNil))) (tC (.int 0))))) (tDrop (tBM K "list" rAppend (tVar 9) (tCons (tOp (rIx K) (tVar 9) (tOp rSubI (tVar 4) (tC (.int 1)))) tNil))) (tSeq (tAsg (tCall sp__law_take [] E (tCons (tVar 0) (tCons (tVar 5) tNil))) (gName 10))
    (tSeq (tAsg (tOp (rIx K) (tVar 3) (tVar 10)) (gName 11))
    (tSeq (tAsg (tOp (rIx K) (tVar 3) (tOp rModI (tCB rIntA (tCons (tOp (rAddA K) (tOp (rAddA K) (tVar 10) (tC (.int 1))) (tCall sp__law_take [] E (tCons (tVar 0) (tCons (tOp rSubI (tVar 5) (tC (.int 1))) tNil)))) tNil)) (tVar 5))) (gName 12))
    (tDrop (tBM K "list" rAppend (tVar 9) (tCons (tTup (tCons (tCB rMin2 (tCons (tVar 11) (tCons (tVar 12) tNil))) (tCons (tCB rMax2 (tCons (tVar 11) (tCons (tVar 12) tNil))) tNil))) tNil))))))))
    (tRet (tThen (tVar 9) (kTup K)))))))))))))
def t__law_closing (K : PySem.W.Frag) (w : World) (E : XK) : TS :=
  (tRet (tThen (tOp (rAddA K) (tLc (iRng2 (tCons (tC (.int 1)) (tCons (tVar 0) tNil))) (gName 1) tYes (tTup (tCons (tC (.int 0)) (tCons (tVar 1) tNil))) [1]) (tLc (iRng2 (tCons (tC (.int 1)) (tCons (tOp rSubI (tVar 0) (tC (.int 1))) tNil))) (gName 1) tYes (tTup (tCons (tC (.int 0)) (tCons (tVar 1) tNil))) [1])) (kTup K)))
def t__law_lot (K : PySem.W.Frag) (w : World) (E : XK) : TS :=
  (tRet (tThen (tLc (iRng1 (tCons (tVar 1) tNil)) (gName 2) (tTest (tOp (rEqA K) (tOp rAndI (tOp rShrI (tVar 0) (tVar 2)) (tC (.int 1))) (tC (.int 1)))) (tVar 2) [2]) (kTup K)))
def t__law_row_fits (K : PySem.W.Frag) (w : World) (sp__law_lot : Sp) (sp__law_same : Sp) (sp__law_walk : Sp) (sp_all_know : Sp) (sp_call_graph : Sp) (sp_first_needless : Sp) (sp_known_after : Sp) (E : XK) : TS :=
  (tSeq (tAsg (tCall sp__law_walk [] E (tCons (tVar 0) (tCons (tVar 1) tNil))) (gName 3))
    (tSeq (tIfS (tTest (tOp (rNeA K) (tOp (rEqA K) (tCB (rMin K) (tCons (tOp (rIx K) (tVar 3) (tC (.int 0))) tNil)) (tOp rSubI (tOp rShlI (tC (.int 1)) (tVar 0)) (tC (.int 1)))) (tVar 2))) (tRet (tC (.bl false))) tNext)
    (tSeq (tIfS (tNot (tB (tCall sp__law_same [] E (tCons (tCall sp_known_after [] E (tCons (tVar 0) (tCons (tVar 1) tNil))) (tCons (tThen (tLc (iSeq K (tOp (rIx K) (tVar 3) (tC (.int 0)))) (gName 5) tYes (tCall sp__law_lot [] E0 (tCons (tVar 5) (tCons (tVar 0) tNil))) [5]) (kTup K)) tNil))))) (tRet (tC (.bl false))) tNext)
    (tSeq (tIfS (tOr (tNot (tB (tCall sp__law_same [] E (tCons (tCall sp_all_know [] E (tCons (tVar 0) (tCons (tVar 1) tNil))) (tCons (tVar 2) tNil))))) (tNot (tB (tCall sp__law_same [] E (tCons (tCall sp_first_needless [] E (tCons (tVar 0) (tCons (tVar 1) tNil))) (tCons (tOp (rIx K) (tVar 3) (tC (.int 1))) tNil)))))) (tRet (tC (.bl false))) tNext)
    (tSeq (tAsg (tLc (iRng1 (tCons (tVar 0) tNil)) (gName 6) tYes (tCB (rLenA K) (tCons (tLc (iSeq K (tVar 1)) (gName 7) (tTest (tOp (rInA K) (tVar 6) (tVar 7))) (tVar 7) [7]) tNil)) [6]) (gName 4))
    (tRet (tCall sp__law_same [] E (tCons (tCall sp_call_graph [] E (tCons (tVar 0) (tCons (tVar 1) tNil))) (tCons (tThen (tVar 4) (kTup K)) tNil)))))))))
def t__law_refusal (K : PySem.W.Frag) (w : World) (C_BadCalls : Addr) (C_BadDeals : Addr) (C_BadGroup : Addr) (C_BadLine : Addr) (C_BadNumber : Addr) (C_BadRow : Addr) (C_BadSteps : Addr) (C_BadTable : Addr) (C_BadText : Addr) (C_BadWorlds : Addr) (C_JointError : Addr) (C_NotThere : Addr) (C_NothingDone : Addr) (C_TooLarge : Addr) (sp_all_know : Sp) (sp_call_graph : Sp) (sp_first_needless : Sp) (sp_known_after : Sp) (E : XK) : TS :=
  (tSeq (tTryAs K (.ref C_JointError) 3 (fun a cls d =>
    (tSeq (tAsg (tLst (tCons (tCB (rIsX K a cls d) (tCons (tVar 3) (tCons (tC (.ref C_BadNumber)) tNil))) (tCons (tCB (rIsX K a cls d) (tCons (tVar 3) (tCons (tC (.ref C_BadCalls)) tNil))) (tCons (tCB (rIsX K a cls d) (tCons (tVar 3) (tCons (tC (.ref C_BadGroup)) tNil))) (tCons (tCB (rIsX K a cls d) (tCons (tVar 3) (tCons (tC (.ref C_BadRow)) tNil))) tNil))))) (gName 4))
    (tSeq (tAsg (tOp (rAddA K) (tVar 4) (tLst (tCons (tCB (rIsX K a cls d) (tCons (tVar 3) (tCons (tC (.ref C_BadDeals)) tNil))) (tCons (tCB (rIsX K a cls d) (tCons (tVar 3) (tCons (tC (.ref C_BadLine)) tNil))) (tCons (tCB (rIsX K a cls d) (tCons (tVar 3) (tCons (tC (.ref C_BadSteps)) tNil))) tNil))))) (gName 4))
    (tSeq (tAsg (tOp (rAddA K) (tVar 4) (tLst (tCons (tCB (rIsX K a cls d) (tCons (tVar 3) (tCons (tC (.ref C_BadTable)) tNil))) (tCons (tCB (rIsX K a cls d) (tCons (tVar 3) (tCons (tC (.ref C_BadText)) tNil))) (tCons (tCB (rIsX K a cls d) (tCons (tVar 3) (tCons (tC (.ref C_BadWorlds)) tNil))) tNil))))) (gName 4))
    (tSeq (tAsg (tOp (rAddA K) (tVar 4) (tLst (tCons (tCB (rIsX K a cls d) (tCons (tVar 3) (tCons (tC (.ref C_NothingDone)) tNil))) tNil))) (gName 4))
    (tSeq (tAsg (tOp (rAddA K) (tVar 4) (tLst (tCons (tCB (rIsX K a cls d) (tCons (tVar 3) (tCons (tC (.ref C_NotThere)) tNil))) (tCons (tCB (rIsX K a cls d) (tCons (tVar 3) (tCons (tC (.ref C_TooLarge)) tNil))) (tCons (tNotV (tCB (rIsX K a cls d) (tCons (tVar 3) (tCons (tC (.ty "ValueError")) tNil)))) tNil))))) (gName 4))
    (tSeq (tAsg (tC (.int 0)) (gName 5))
    (tSeq (tIfS (tB (tCB (rIsX K a cls d) (tCons (tVar 3) (tCons (tC (.ref C_BadRow)) tNil)))) (tAsg (tXf a cls d C_BadRow "place" (tVar 3)) (gName 5)) tNext)
    (tRet (tLst (tCons (tThen (tLc (iRng1 (tCons (tCB (rLenA K) (tCons (tVar 4) tNil)) tNil)) (gName 6) (tB (tOp (rIx K) (tVar 4) (tVar 6))) (tVar 6) [6]) (kTup K)) (tCons (tVar 5) tNil)))))))))))) (fun cls d _ H => E cls d H) (fun W =>
    (tIfS (tTest (tOp (rEqA K) (tVar 0) (tC (.int 0)))) (tDrop (tCallS sp_known_after (WE W) (tCons (tVar 1) (tCons (tVar 2) tNil)))) (tIfS (tTest (tOp (rEqA K) (tVar 0) (tC (.int 1)))) (tDrop (tCallS sp_all_know (WE W) (tCons (tVar 1) (tCons (tVar 2) tNil)))) (tIfS (tTest (tOp (rEqA K) (tVar 0) (tC (.int 2)))) (tDrop (tCallS sp_first_needless (WE W) (tCons (tVar 1) (tCons (tVar 2) tNil)))) (tDrop (tCallS sp_call_graph (WE W) (tCons (tVar 1) (tCons (tVar 2) tNil)))))))))
    (tRet (tLst (tCons (tTup tNil) (tCons (tC (.int 0)) tNil)))))
def t__law_bad_number (K : PySem.W.Frag) (w : World) (sp__law_take : Sp) (E : XK) : TS :=
  (tRet (tOp (rIx K) (tTup (tCons (tC (.int 1)) (tCons (tC (.int 7)) (tCons (tC (.int 0)) (tCons (tC (.bl true)) (tCons (tC .non) (tCons (tC (.str (PySem.Str.ofString "3"))) (tCons (tTup (tCons (tC (.int 3)) tNil)) (tCons (tOp rSubI (tC (.int 0)) (tC (.int 1))) (tCons (tC (.int 100000000000000000003)) tNil)))))))))) (tCall sp__law_take [] E (tCons (tVar 0) (tCons (tC (.int 9)) tNil)))))
def t__law_bad_pair (K : PySem.W.Frag) (w : World) (sp__law_take : Sp) (E : XK) : TS :=
  (tSeq (tAsg (tCall sp__law_take [] E (tCons (tVar 0) (tCons (tC (.int 12)) tNil))) (gName 4))
    (tSeq (tIfS (tTest (tOp rLtI (tVar 4) (tC (.int 4)))) (tRet (tOp (rIx K) (tTup (tCons (tTup (tCons (tVar 3) (tCons (tVar 2) tNil))) (tCons (tTup (tCons (tVar 2) (tCons (tVar 2) tNil))) (tCons (tTup (tCons (tVar 2) (tCons (tVar 1) tNil))) (tCons (tTup (tCons (tOp rSubI (tC (.int 0)) (tC (.int 1))) (tCons (tVar 3) tNil))) tNil))))) (tVar 4))) tNext)
    (tSeq (tIfS (tTest (tOp rLtI (tVar 4) (tC (.int 8)))) (tRet (tOp (rIx K) (tTup (tCons (tTup (tCons (tVar 2) (tCons (tVar 3) (tCons (tVar 3) tNil)))) (tCons (tTup (tCons (tVar 2) tNil)) (tCons (tLst (tCons (tVar 2) (tCons (tVar 3) tNil))) (tCons (tTup (tCons (tC (.bl false)) (tCons (tVar 3) tNil))) tNil))))) (tOp rSubI (tVar 4) (tC (.int 4))))) tNext)
    (tRet (tOp (rIx K) (tTup (tCons (tC .non) (tCons (tC (.str (PySem.Str.ofString "01"))) (tCons (tTup (tCons (tVar 2) (tCons (tCB rStrI (tCons (tVar 3) tNil)) tNil))) (tCons (tTup (tCons (tVar 2) (tCons (tC (.int 100000000000000000000)) tNil))) tNil))))) (tOp rSubI (tVar 4) (tC (.int 8))))))))
def t__law_bad_calls (K : PySem.W.Frag) (w : World) (sp__law_bad_pair : Sp) (sp__law_take : Sp) (E : XK) : TS :=
  (tSeq (tAsg (tCall sp__law_take [] E (tCons (tVar 0) (tCons (tC (.int 18)) tNil))) (gName 3))
    (tSeq (tIfS (tTest (tOp (rEqA K) (tVar 3) (tC (.int 0)))) (tRet (tCB (rListA K) (tCons (tVar 2) tNil))) tNext)
    (tSeq (tIfS (tTest (tOp (rEqA K) (tVar 3) (tC (.int 1)))) (tRet (tC .non)) tNext)
    (tSeq (tIfS (tTest (tOp (rEqA K) (tVar 3) (tC (.int 2)))) (tRet (tC (.str (PySem.Str.ofString "")))) tNext)
    (tSeq (tIfS (tTest (tOp rLtI (tVar 3) (tC (.int 6)))) (tRet (tOp (rAddA K) (tVar 2) (tOp (rMulA K) (tTup (tCons (tOp (rIx K) (tVar 2) (tC (.int 0))) tNil)) (tOp rSubI (tC (.int 41)) (tCB (rLenA K) (tCons (tVar 2) tNil)))))) tNext)
    (tSeq (tAsg (tCall sp__law_take [] E (tCons (tVar 0) (tCons (tCB (rLenA K) (tCons (tVar 2) tNil)) tNil))) (gName 4))
    (tSeq (tAsg (tCall sp__law_bad_pair [] E (tCons (tVar 0) (tCons (tVar 1) (tCons (tOp (rIx K) (tOp (rIx K) (tVar 2) (tVar 4)) (tC (.int 0))) (tCons (tOp (rIx K) (tOp (rIx K) (tVar 2) (tVar 4)) (tC (.int 1))) tNil))))) (gName 5))
    (tRet (tOp (rAddA K) (tOp (rAddA K) (tSl (rSlB K) (tVar 2) tNoPart (tPart (tVar 4))) (tTup (tCons (tVar 5) tNil))) (tSl (rSlB K) (tVar 2) (tPart (tOp (rAddA K) (tVar 4) (tC (.int 1)))) tNoPart))))))))))

def R_closing (ds : List PyData) (o : Out) : Prop := ∃ N : Nat, 2 ≤ N ∧ N ≤ 6 ∧ ds = [.int (N : Nat)] ∧ o = .ok (encCs (closing N))
def R_lot (ds : List PyData) (o : Out) : Prop := ∃ (N : Nat) (f : Nat → Bool), N ≤ 6 ∧ ds = [.int (maskN f N : Nat), .int (N : Nat)] ∧ o = .ok (lotD N f)
def R_row (ds : List PyData) (o : Out) : Prop := ∃ N cs, GoodC N cs ∧ ds = [.int (N : Nat), encCs cs, .bool (allB N (kn cs))] ∧ o = .ok (.bool true)
section
variable {K : PySem.W.Frag} {w : World} {C C' : Addr}
theorem pure_closing (vs : List V) (H : Hp) (Q : VK) (E : XK) (h : spR R_closing vs H Q E) : t__law_closing K w E { nx := fun _ H' => Q .non H', rt := Q } (L2.start ["n", "k"] vs) H :=
  spR_body (N := ["n", "k"]) (t := fun E => t__law_closing K w E) h fun ds o hR B F0 D E hr hx hn => by
    obtain ⟨N, h2, h6, rfl, rfl⟩ := hR
    refine at_ret hr (ev_tupleL ((en_cat (en_star (Γ0 := [.dat (.int (N : Nat)), .no]) (j := N - 1) ((ev_var rfl).is (by congr 1; omega)) (by omega) rfl (by simp)).rl (en_star (Γ0 := [.dat (.int (N : Nat)), .no]) (j := N - 2) ((ev_sub (ev_var rfl) ev_int).is (by congr 1; omega)) (by omega) rfl (by simp)).rl
      (by unfold star; simp; omega)).is (List.map_append ..).symm).rl) rfl
theorem pure_lot (vs : List V) (H : Hp) (Q : VK) (E : XK) (h : spR R_lot vs H Q E) : t__law_lot K w E { nx := fun _ H' => Q .non H', rt := Q } (L2.start ["mask", "n", "k"] vs) H :=
  spR_body (N := ["mask", "n", "k"]) (t := fun E => t__law_lot K w E) h fun ds o hR B F0 D E hr hx hn => by
    obtain ⟨N, f, h6, rfl, rfl⟩ := hR
    refine at_ret hr (ev_tupleL (en_lc (xs := List.range N) (enc := fun k : Nat => .int k) (f := fun k : Nat => .int k) (p := f) (Γx := fun k => [.dat (.int (maskN f N : Nat)), .dat (.int (N : Nat)), .dat (.int (k : Nat))]) (if_rngN (ev_var rfl) (by omega)).h (by simp; omega) (fun x _ => tg_name List.mem_cons_self) (fun k hk => ?_) fun k _ _ => ev_var rfl).rl) rfl
    exact (et_test (ev_eqI (ev_band (ev_shr (ev_var rfl) (ev_var rfl) (by omega)) ev_int) ev_int)).is (mask_test _ (List.mem_range.mp hk))
theorem pure_row (vs : List V) (H : Hp) (Q : VK) (E : XK) (h : spR R_row vs H Q E) :
    t__law_row_fits K w (spR R_lot) (spR (R_same 9)) (spR R_walk) (spR (R_chk C C' fun N cs => .bool (allB N (kn cs)))) (spR (R_chk C C' graphD)) (spR (R_chk C C' fun N cs => optD (fnl N cs))) (spR (R_chk C C' knownD)) E { nx := fun _ H' => Q .non H', rt := Q } (L2.start ["n", "calls", "whole", "walk", "many", "mask", "k", "pair"] vs) H :=
  spR_body (N := ["n", "calls", "whole", "walk", "many", "mask", "k", "pair"]) (t := fun E => t__law_row_fits K w (spR R_lot) (spR (R_same 9)) (spR R_walk) (spR (R_chk C C' fun N cs => .bool (allB N (kn cs)))) (spR (R_chk C C' graphD)) (spR (R_chk C C' fun N cs => optD (fnl N cs))) (spR (R_chk C C' knownD)) E) h fun ds o hR B F0 D E hr hx hn => by
    obtain ⟨N, cs, hg, rfl, rfl⟩ := hR
    have h6 := hg.2.1
    have h40 := hg.2.2.1
    obtain ⟨m, hm1, hm2⟩ := min_ex ((List.range N).map fun p => ((maskN (kn cs p) N : Nat) : Int)) (by
      intro e
      have := congrArg List.length e
      simp at this
      have := hg.1
      omega)
    refine at_seq (at_asg (ev_call (d := walkD N cs) (ea_cons (ev_var rfl) (ea_cons (ev_var rfl) ea_nil)) ⟨N, cs, hg, rfl, rfl⟩) ?_)
    have hw0 : ∀ {Γ : List Sl}, Γ[3]? = some (.dat (walkD N cs)) → EvD (tOp (rIx K) (tVar 3) (tC (.int 0))) Γ (.list (masksD N (kn cs))) := fun h => ev_ixN (n := 0) (ev_var (d := walkD N cs) h).rl.s ev_int rfl
    refine at_seq (at_ifF ((et_test (ev_neB (ev_eqI (ev_minL (((hw0 rfl).is (by rw [masks_ints])).rl) hm1 hm2) (ev_sub (ev_shl ev_int (ev_var rfl) ⟨by omega, by omega, by decide⟩) ev_int)) (ev_var rfl))).is (by rw [min_full hm1 hm2]; simp)) (at_next ?_))
    refine at_seq (at_ifF ((et_not (et_B (ev_same (x := knownD N cs) (y := knownD N cs) (ev_call (ea_cons (ev_var rfl) (ea_cons (ev_var rfl) ea_nil)) (.inl ⟨N, cs, hg, rfl, rfl⟩)) (ev_tupleL (en_lcM (xs := List.range N) (enc := fun p => .int (maskN (kn cs p) N : Nat)) (f := fun p => lotD N (kn cs p)) (Γx := fun p => [.dat (.int (N : Nat)), .dat (encCs cs), .dat (.bool (allB N (kn cs))), .dat (walkD N cs), .no, .dat (.int (maskN (kn cs p) N : Nat)), .no, .no])
      (ih_seq (hw0 rfl).rl.s) (by simp; omega) (fun x _ => tg_name List.mem_cons_self) fun p _ => ev_call (ea_cons (ev_var rfl) (ea_cons (ev_var rfl) ea_nil)) ⟨N, kn cs p, h6, rfl, rfl⟩).rl) rfl (pl_rows h6)))).is rfl) (at_next ?_))
    refine at_seq (at_ifF (et_or (a := false) (b := false) ((et_not (et_B (ev_same (x := .bool (allB N (kn cs))) (ev_call (ea_cons (ev_var rfl) (ea_cons (ev_var rfl) ea_nil)) (.inl ⟨N, cs, hg, rfl, rfl⟩)) (ev_var rfl) rfl pl_bl))).is rfl) fun _ =>
      (et_not (et_B (ev_same (x := optD (fnl N cs)) (y := optD (fnl N cs)) (ev_call (ea_cons (ev_var rfl) (ea_cons (ev_var rfl) ea_nil)) (.inl ⟨N, cs, hg, rfl, rfl⟩)) (ev_ixN (n := 1) (ev_var (d := walkD N cs) rfl).rl.s ev_int rfl) rfl ?_))).is rfl) (at_next ?_))
    · cases fnl N cs <;> first | exact pl_non | exact pl_int
    refine at_seq (at_asgN (en_lcM (xs := List.range N) (enc := fun p : Nat => .int p) (f := fun p : Nat => .int ((cs.filter fun c => decide (p = c.1) || decide (p = c.2)).length : Nat)) (Γx := fun k => [.dat (.int (N : Nat)), .dat (encCs cs), .dat (.bool (allB N (kn cs))), .dat (walkD N cs), .no, .no, .dat (.int (k : Nat)), .no])
      (if_rngN (ev_var rfl) (by omega)).h (by simp; omega) (fun x _ => tg_name List.mem_cons_self) fun k _ => ?_) ?_)
    · refine (ev_len (en_lc (xs := cs) (enc := encP) (f := encP) (p := fun c => decide (k = c.1) || decide (k = c.2)) (Γx := fun c => [.dat (.int (N : Nat)), .dat (encCs cs), .dat (.bool (allB N (kn cs))), .dat (walkD N cs), .no, .no, .dat (.int (k : Nat)), .dat (encP c)])
        (ih_seq (ev_var (d := encCs cs) rfl).rt) (by omega) (fun x _ => tg_name List.mem_cons_self) (fun c _ => ?_) fun c _ _ => ev_var rfl).rl.s).is (by rw [List.length_map])
      exact et_test ((ev_inA (ev_var rfl) (ev_var (d := encP c) rfl).rt rfl rfl).is (by rw [in_pair]))
    dsimp only
    exact at_ret hr (ev_same (x := graphD N cs) (y := graphD N cs) (ev_call (ea_cons (ev_var rfl) (ea_cons (ev_var rfl) ea_nil)) (.inl ⟨N, cs, hg, rfl, rfl⟩)) (ev_tupleL (rl_own rfl)) rfl (pl_graph h6 _)) rfl
/-! ### refusals -/
section
variable {J BN BC BG BR BD BL BS BT BX BW ND NT TL : Addr}
def R_refusal (ds : List PyData) (o : Out) : Prop := ∃ (m : Nat) (n d : PyData) (j : List Nat), m < 4 ∧ ds = [.int (m : Nat), n, d] ∧ ChkR n d j ∧ o = .ok (refD j (.int 0))
theorem pure_refusal (h0 : ErrOk K BN J (csL BN BC BG BR BD BL BS BT BX BW ND NT TL) 0) (h1 : ErrOk K BC J (csL BN BC BG BR BD BL BS BT BX BW ND NT TL) 1) (vs : List V) (H : Hp) (Q : VK) (E : XK) (h : spR R_refusal vs H Q E) :
    t__law_refusal K w BC BD BG BL BN BR BS BT BX BW J NT ND TL (spR (R_chk BN BC fun N cs => .bool (allB N (kn cs)))) (spR (R_chk BN BC graphD)) (spR (R_chk BN BC fun N cs => optD (fnl N cs))) (spR (R_chk BN BC knownD)) E { nx := fun _ H' => Q .non H', rt := Q } (L2.start ["which", "n", "calls", "e", "kinds", "place", "k"] vs) H :=
  spR_body (N := ["which", "n", "calls", "e", "kinds", "place", "k"]) (t := fun E => t__law_refusal K w BC BD BG BL BN BR BS BT BX BW J NT ND TL (spR (R_chk BN BC fun N cs => .bool (allB N (kn cs)))) (spR (R_chk BN BC graphD)) (spR (R_chk BN BC fun N cs => optD (fnl N cs))) (spR (R_chk BN BC knownD)) E) h fun ds o hR B F0 D E hr hx hn => by
    obtain ⟨m, n, d, j, hm, rfl, hj, rfl⟩ := hR
    have ret : At pc0 B F0 [.dat (.int (m : Nat)), .dat n, .dat d, .no, .no, .no, .no] (tRet (tLst (tCons (tTup tNil) (tCons (tC (.int 0)) tNil))) D) ∨ j ≠ [] := by
      by_cases e : j = []
      · subst e
        exact .inl (at_ret hr (en_lst (ea_cons (ev_tup ea_nil (by simp)) (ea_cons ev_int ea_nil)) (by simp)).fz rfl)
      · exact .inr e
    have done2 : ∀ D' : Ends, D'.rt = D.rt → (j = [] → At pc0 B F0 [.dat (.int (m : Nat)), .dat n, .dat d, .no, .no, .no, .no] D'.nx) → ∀ v : Nat → Cs → PyData, At pc0 B F0 [.dat (.int (m : Nat)), .dat n, .dat d, .no, .no, .no, .no]
        (tDrop (tCallS (spR (R_chk BN BC v)) (WE (wAs K (.ref J) 3 (tKinds K 3 4 5 6 BN BC BG BR BD BL BS BT BX BW ND NT TL) (fun cls d _ H => E cls d H) D')) (tCons (tVar 1) (tCons (tVar 2) tNil))) D') := fun D' e1 hk v => by
      rcases hj with ⟨rfl, N, cs, hg, rfl, rfl⟩ | ⟨hz, ⟨h2, rfl⟩ | ⟨h2, h3, rfl⟩⟩
      · exact at_dropS (ea_cons (ev_var rfl) (ea_cons (ev_var rfl) ea_nil)) (.inl ⟨N, cs, hg, rfl, rfl⟩) (fun _ _ => hk rfl) fun c f e => nomatch e
      · refine at_dropS (ea_cons (ev_var rfl) (ea_cons (ev_var rfl) ea_nil)) (.inr ⟨n, d, rfl, hz, .inl ⟨h2, rfl⟩⟩) (fun d e => nomatch e) fun c f e => ?_
        cases e
        exact xat_as h0.exm fun a => at_kinds rfl (by decide) (by decide) (by decide) (by decide) (by simp) (by simp) (by simp) (by decide) (by decide) h0 (fun F H v d w g e r => by show D'.rt v H; rw [e1]; exact hr F H v d w g (by rw [e]) r)
      · refine at_dropS (ea_cons (ev_var rfl) (ea_cons (ev_var rfl) ea_nil)) (.inr ⟨n, d, rfl, hz, .inr ⟨h2, h3, rfl⟩⟩) (fun d e => nomatch e) fun c f e => ?_
        cases e
        exact xat_as h1.exm fun a => at_kinds rfl (by decide) (by decide) (by decide) (by decide) (by simp) (by simp) (by simp) (by decide) (by decide) h1 (fun F H v d w g e r => by show D'.rt v H; rw [e1]; exact hr F H v d w g (by rw [e]) r)
    have hk : j = [] → At pc0 B F0 [.dat (.int (m : Nat)), .dat n, .dat d, .no, .no, .no, .no] (tRet (tLst (tCons (tTup tNil) (tCons (tC (.int 0)) tNil))) D) := fun e => ret.resolve_right fun h => h e
    refine at_seq ?_
    unfold tTryAs
    match m, hm with
    | 0, _ => exact at_ifT ((et_test (ev_eqI (ev_var rfl) ev_int)).is rfl) (done2 { D with nx := tRet (tLst (tCons (tTup tNil) (tCons (tC (.int 0)) tNil))) D } rfl hk _)
    | 1, _ => exact at_ifF ((et_test (ev_eqI (ev_var rfl) ev_int)).is rfl) (at_ifT ((et_test (ev_eqI (ev_var rfl) ev_int)).is rfl) (done2 { D with nx := tRet (tLst (tCons (tTup tNil) (tCons (tC (.int 0)) tNil))) D } rfl hk _))
    | 2, _ => exact at_ifF ((et_test (ev_eqI (ev_var rfl) ev_int)).is rfl) (at_ifF ((et_test (ev_eqI (ev_var rfl) ev_int)).is rfl) (at_ifT ((et_test (ev_eqI (ev_var rfl) ev_int)).is rfl) (done2 { D with nx := tRet (tLst (tCons (tTup tNil) (tCons (tC (.int 0)) tNil))) D } rfl hk _)))
    | 3, _ => exact at_ifF ((et_test (ev_eqI (ev_var rfl) ev_int)).is rfl) (at_ifF ((et_test (ev_eqI (ev_var rfl) ev_int)).is rfl) (at_ifF ((et_test (ev_eqI (ev_var rfl) ev_int)).is rfl) (done2 { D with nx := tRet (tLst (tCons (tTup tNil) (tCons (tC (.int 0)) tNil))) D } rfl hk _)))
    | m + 4, h => exact absurd h (by omega)
end
/-! ### what is spoilt -/
def sp_badn : Sp := spD Pl (fun ds => ds = []) fun _ d => fromTo d 2 6 = false ∧ TupLe 100000 d
def badP (N : Nat) (d : PyData) : Prop := isPair d = false ∨ okPair N d = false
def sp_badp : Sp := spD Pl (fun ds => ∃ N a b : Nat, N ≤ 6 ∧ a < b ∧ b < N ∧ ds = [.int (N : Nat), .int (a : Nat), .int (b : Nat)]) fun ds d => ∀ N a b : Nat, ds = [.int (N : Nat), .int (a : Nat), .int (b : Nat)] → badP N d
def sp_badc : Sp := spD Pl (fun ds => ∃ N cs, GoodC N cs ∧ 0 < cs.length ∧ ds = [.int (N : Nat), encCs cs]) fun ds d => ∀ N cs, GoodC N cs → ds = [.int (N : Nat), encCs cs] → okCalls d (N : Nat) = false ∧ TupLe 100000 d
theorem lt9 {P : Nat → Prop} (h : ∀ m : Nat, m < 9 → P m) : ∀ i : Int, 0 ≤ i ∧ i < 9 → ∃ m : Nat, i = m ∧ P m := fun i hi => ⟨i.toNat, by omega, h _ (by omega)⟩
theorem pure_badn (vs : List V) (H : Hp) (Q : VK) (E : XK) (h : sp_badn vs H Q E) : t__law_bad_number K w sp__law_take E { nx := fun _ H' => Q .non H', rt := Q } (L2.start ["pool"] vs) H :=
  spD_body (N := ["pool"]) (t := fun E => t__law_bad_number K w sp__law_take E) h fun C ds hC hpre B F0 D hr => by
    subst hpre
    refine at_retR hr (er_ix (P := fun d => fromTo d 2 6 = false ∧ TupLe 100000 d) (EvD.rst (ev_tup (ea_cons ev_int (ea_cons ev_int (ea_cons ev_int (ea_cons ev_bl (ea_cons ev_non (ea_cons ev_str (ea_cons (ev_tup (ea_cons ev_int ea_nil) (by simp)) (ea_cons (ev_sub ev_int ev_int) (ea_cons ev_int ea_nil))))))))) (by simp))) (ei_take hC rfl ev_int (by decide) (by decide)) fun ds i e hi => ?_) fun d hd => hd
    subst e
    obtain ⟨m, rfl, hm⟩ : ∃ m : Nat, i = m ∧ m < 9 := ⟨i.toNat, by omega, by omega⟩
    match m, hm with
    | 0, _ => exact ⟨_, rfl, rfl, Nat.zero_le _⟩
    | 1, _ => exact ⟨_, rfl, rfl, Nat.zero_le _⟩
    | 2, _ => exact ⟨_, rfl, rfl, Nat.zero_le _⟩
    | 3, _ => exact ⟨_, rfl, rfl, Nat.zero_le _⟩
    | 4, _ => exact ⟨_, rfl, rfl, Nat.zero_le _⟩
    | 5, _ => exact ⟨_, rfl, rfl, Nat.zero_le _⟩
    | 6, _ => exact ⟨_, rfl, rfl, by show 1 ≤ 100000; omega⟩
    | 7, _ => exact ⟨_, rfl, rfl, Nat.zero_le _⟩
    | 8, _ => exact ⟨_, rfl, rfl, Nat.zero_le _⟩
    | m + 9, h => exact absurd h (by omega)
theorem okP_eq {N : Nat} {x y : PyData} : okPair N (.tuple [x, y]) = (fromTo x 0 ((N : Int) - 1) && (fromTo y 0 ((N : Int) - 1) && ltD x y)) := rfl
theorem ft_out {N k : Nat} {i : Int} (h : (N : Int) - 1 < i ∨ i < 0) : fromTo (.int i) 0 ((N : Int) - 1) = false := by
  show (true && (decide (0 ≤ i) && decide (i ≤ (N : Int) - 1))) = false
  rcases h with h | h
  · rw [decide_eq_false (p := i ≤ (N : Int) - 1) (by omega), Bool.and_false, Bool.and_false]
  · rw [decide_eq_false (p := 0 ≤ i) (by omega)]; rfl
theorem pure_badp (vs : List V) (H : Hp) (Q : VK) (E : XK) (h : sp_badp vs H Q E) : t__law_bad_pair K w sp__law_take E { nx := fun _ H' => Q .non H', rt := Q } (L2.start ["pool", "n", "one", "other", "kind"] vs) H :=
  spD_body (N := ["pool", "n", "one", "other", "kind"]) (t := fun E => t__law_bad_pair K w sp__law_take E) h fun C ds hC hpre B F0 D hr => by
    obtain ⟨N, a, b, h6, hab, hbN, rfl⟩ := hpre
    have fin : ∀ {te : TE} {Γ : List Sl} {d : PyData}, EvD te Γ d → badP N d → At C B F0 Γ (tRet te D) := fun {te Γ d} h1 h2 => at_ret hr h1 fun N' a' b' e => by
      have e1 := PyData.int.inj (List.cons.inj e).1
      have e2 : N' = N := by omega
      subst e2; exact h2
    refine at_seq (at_asgI (ei_take hC rfl ev_int (by decide) (by decide)) fun kd hk => ?_)
    obtain ⟨m, rfl, hm⟩ : ∃ m : Nat, kd = m ∧ m < 12 := ⟨kd.toNat, by omega, by omega⟩
    clear hk
    dsimp only
    by_cases h4 : m < 4
    · refine at_seq (at_ifT ((et_test (ev_lt (ev_var rfl) ev_int)).is (decide_eq_true (by omega))) ?_)
      have ev := ev_tup (Γ := [.pool, .dat (.int (N : Nat)), .dat (.int (a : Nat)), .dat (.int (b : Nat)), .dat (.int (m : Nat))]) (ea_cons (ev_tup (ea_cons (ev_var (i := 3) rfl) (ea_cons (ev_var (i := 2) rfl) ea_nil)) (by simp)) (ea_cons (ev_tup (ea_cons (ev_var (i := 2) rfl) (ea_cons (ev_var (i := 2) rfl) ea_nil)) (by simp)) (ea_cons (ev_tup (ea_cons (ev_var (i := 2) rfl) (ea_cons (ev_var (i := 1) rfl) ea_nil)) (by simp)) (ea_cons (ev_tup (ea_cons (ev_sub (ev_int (i := 0)) (ev_int (i := 1))) (ea_cons (ev_var (i := 3) rfl) ea_nil)) (by simp)) ea_nil)))) (by simp)
      match m, h4 with
      | 0, _ => exact fin (ev_ixN (n := 0) ev.rt (ev_var rfl) rfl) (.inr (by rw [okP_eq]; show (_ && (_ && decide ((b : Int) < (a : Int)))) = false; rw [decide_eq_false (by omega), Bool.and_false, Bool.and_false]))
      | 1, _ => exact fin (ev_ixN (n := 1) ev.rt (ev_var rfl) rfl) (.inr (by rw [okP_eq]; show (_ && (_ && decide ((a : Int) < (a : Int)))) = false; rw [decide_eq_false (by omega), Bool.and_false, Bool.and_false]))
      | 2, _ => exact fin (ev_ixN (n := 2) ev.rt (ev_var rfl) rfl) (.inr (by rw [okP_eq, ft_out (k := 0) (i := ((N : Nat) : Int)) (.inl (by omega)), Bool.false_and, Bool.and_false]))
      | 3, _ => exact fin (ev_ixN (n := 3) ev.rt (ev_var rfl) rfl) (.inr (by rw [okP_eq, ft_out (k := 0) (i := (0 - 1 : Int)) (.inr (by omega)), Bool.false_and]))
      | m + 4, h => exact absurd h (by omega)
    refine at_seq (at_ifF ((et_test (ev_lt (ev_var rfl) ev_int)).is (decide_eq_false (by omega))) (at_next ?_))
    by_cases h8 : m < 8
    · refine at_seq (at_ifT ((et_test (ev_lt (ev_var rfl) ev_int)).is (decide_eq_true (by omega))) ?_)
      have ev := ev_tup (Γ := [.pool, .dat (.int (N : Nat)), .dat (.int (a : Nat)), .dat (.int (b : Nat)), .dat (.int (m : Nat))]) (ea_cons (ev_tup (ea_cons (ev_var (i := 2) rfl) (ea_cons (ev_var (i := 3) rfl) (ea_cons (ev_var (i := 3) rfl) ea_nil))) (by simp)) (ea_cons (ev_tup (ea_cons (ev_var (i := 2) rfl) ea_nil) (by simp)) (ea_cons (en_lst (ea_cons (ev_var (i := 2) rfl) (ea_cons (ev_var (i := 3) rfl) ea_nil)) (by simp)).fz (ea_cons (ev_tup (ea_cons (ev_bl (b := false)) (ea_cons (ev_var (i := 3) rfl) ea_nil)) (by simp)) ea_nil)))) (by simp)
      match m, h4, h8 with
      | 4, _, _ => exact fin (ev_ixN (n := 0) ev.rt ((ev_sub (ev_var rfl) ev_int).is rfl) rfl) (.inl rfl)
      | 5, _, _ => exact fin (ev_ixN (n := 1) ev.rt ((ev_sub (ev_var rfl) ev_int).is rfl) rfl) (.inl rfl)
      | 6, _, _ => exact fin (ev_ixN (n := 2) ev.rt ((ev_sub (ev_var rfl) ev_int).is rfl) rfl) (.inl rfl)
      | 7, _, _ => exact fin (ev_ixN (n := 3) ev.rt ((ev_sub (ev_var rfl) ev_int).is rfl) rfl) (.inr rfl)
      | 0, h, _ => exact absurd (by omega) h
      | 1, h, _ => exact absurd (by omega) h
      | 2, h, _ => exact absurd (by omega) h
      | 3, h, _ => exact absurd (by omega) h
      | m + 8, _, h => exact absurd h (by omega)
    refine at_seq (at_ifF ((et_test (ev_lt (ev_var rfl) ev_int)).is (decide_eq_false (by omega))) (at_next ?_))
    have hl : ((b : Nat) : Int).natAbs.log2 < 1920 := by
      have h1 : ((b : Nat) : Int).natAbs = b := by simp
      rw [h1]
      have h2 : b < 2 ^ 3 := by omega
      by_cases hb0 : b = 0
      · subst hb0; decide
      · exact Nat.lt_trans ((Nat.log2_lt (k := 3) hb0).mpr h2) (by decide)
    have ev := ev_tup (Γ := [.pool, .dat (.int (N : Nat)), .dat (.int (a : Nat)), .dat (.int (b : Nat)), .dat (.int (m : Nat))]) (ea_cons ev_non (ea_cons (ev_str (s := PySem.Str.ofString "01")) (ea_cons (ev_tup (ea_cons (ev_var (i := 2) rfl) (ea_cons (ev_cstr (ev_var (i := 3) rfl) hl) ea_nil)) (by simp)) (ea_cons (ev_tup (ea_cons (ev_var (i := 2) rfl) (ea_cons (ev_int (i := 100000000000000000000)) ea_nil)) (by simp)) ea_nil)))) (by simp)
    match m, h8, hm with
    | 8, _, _ => exact fin (ev_ixN (n := 0) ev.rt ((ev_sub (ev_var rfl) ev_int).is rfl) rfl) (.inl rfl)
    | 9, _, _ => exact fin (ev_ixN (n := 1) ev.rt ((ev_sub (ev_var rfl) ev_int).is rfl) rfl) (.inl rfl)
    | 10, _, _ => exact fin (ev_ixN (n := 2) ev.rt ((ev_sub (ev_var rfl) ev_int).is rfl) rfl) (.inr (by rw [okP_eq]; show (_ && (false && _)) = false; rw [Bool.false_and, Bool.and_false]))
    | 11, _, _ => exact fin (ev_ixN (n := 3) ev.rt ((ev_sub (ev_var rfl) ev_int).is rfl) rfl) (.inr (by rw [okP_eq, ft_out (k := 0) (i := (100000000000000000000 : Int)) (.inl (by omega)), Bool.false_and, Bool.and_false]))
    | 0, h, _ => exact absurd (by omega) h
    | 1, h, _ => exact absurd (by omega) h
    | 2, h, _ => exact absurd (by omega) h
    | 3, h, _ => exact absurd (by omega) h
    | 4, h, _ => exact absurd (by omega) h
    | 5, h, _ => exact absurd (by omega) h
    | 6, h, _ => exact absurd (by omega) h
    | 7, h, _ => exact absurd (by omega) h
    | m + 12, _, h => exact absurd h (by omega)
theorem not_pairs {N : Nat} {xs : List PyData} {d : PyData} (h : d ∈ xs) (hb : badP N d) : okCalls (.tuple xs) (N : Nat) = false := by
  unfold okCalls arePairs
  show ((true && xs.all isPair && xs.all (okPair N)) && _) = false
  rcases hb with hb | hb
  · have : xs.all isPair = false := List.all_eq_false.mpr ⟨d, h, by rw [hb]; exact Bool.false_ne_true⟩
    rw [this]; rfl
  · have : xs.all (okPair N) = false := List.all_eq_false.mpr ⟨d, h, by rw [hb]; exact Bool.false_ne_true⟩
    rw [this, Bool.and_false, Bool.false_and]
theorem pure_badc (vs : List V) (H : Hp) (Q : VK) (E : XK) (h : sp_badc vs H Q E) : t__law_bad_calls K w sp_badp sp__law_take E { nx := fun _ H' => Q .non H', rt := Q } (L2.start ["pool", "n", "calls", "kind", "at", "bad"] vs) H :=
  spD_body (N := ["pool", "n", "calls", "kind", "at", "bad"]) (t := fun E => t__law_bad_calls K w sp_badp sp__law_take E) h fun C ds hC hpre B F0 D hr => by
    obtain ⟨N, cs, hg, hpos, rfl⟩ := hpre
    have h40 := hg.2.2.1
    have fin : ∀ {te : TE} {Γ : List Sl} {P : PyData → Prop}, EvR C te Γ P → (∀ d, P d → okCalls d (N : Nat) = false ∧ TupLe 100000 d) → At C B F0 Γ (tRet te D) := fun {te Γ P} h1 h2 => at_retR hr h1 fun d pd N' cs' hg' e => by
      have e1 := PyData.int.inj (List.cons.inj e).1
      have e2 : N = N' := by omega
      subst e2; exact h2 d pd
    refine at_seq (at_asgI (ei_take hC rfl ev_int (by decide) (by decide)) fun kd hk => ?_)
    refine at_seq (at_ifR (etr_d (et_test (ev_eqI (ev_var rfl) ev_int))) (fun _ => fin (EvD.r (en_list (ev_var (d := encCs cs) rfl).rt).fz) fun d e => by subst e; exact ⟨rfl, Nat.zero_le _⟩) fun _ => at_next ?_)
    refine at_seq (at_ifR (etr_d (et_test (ev_eqI (ev_var rfl) ev_int))) (fun _ => fin (EvD.r ev_non) fun d e => by subst e; exact ⟨rfl, Nat.zero_le _⟩) fun _ => at_next ?_)
    refine at_seq (at_ifR (etr_d (et_test (ev_eqI (ev_var rfl) ev_int))) (fun _ => fin (EvD.r ev_str) fun d e => by subst e; exact ⟨rfl, Nat.zero_le _⟩) fun _ => at_next ?_)
    obtain ⟨c, hc⟩ : ∃ c, cs[0]? = some c := ⟨_, List.getElem?_eq_getElem hpos⟩
    refine at_seq (at_ifR (etr_d (et_test (ev_lt (ev_var rfl) ev_int))) (fun _ => fin (EvD.r (ev_catT (ev_var (d := encCs cs) rfl) (ev_repA (k := 41 - cs.length) (ev_tup (ea_cons (ev_ixN (n := 0) (ev_var (d := encCs cs) rfl).rt ev_int (encCs_at hc)) ea_nil) (by simp)) ((ev_sub ev_int ((ev_len (ev_var (d := encCs cs) rfl).rt).is (by rw [List.length_map]))).is (by congr 1; omega)) (by simp) (by omega) (by simp)) (by simp; omega))) fun d e => ?_) fun _ => at_next ?_)
    · subst e
      have hl : (cs.map encP ++ (List.replicate (41 - cs.length) [encP c]).flatten).length = 41 := by simp; omega
      refine ⟨?_, by show (cs.map encP ++ (List.replicate (41 - cs.length) [encP c]).flatten).length ≤ _; omega⟩
      unfold okCalls
      have : decide (((tupOf (.tuple (cs.map encP ++ (List.replicate (41 - cs.length) [encP c]).flatten))).length : Int) ≤ 40) = false := decide_eq_false (by show ¬ (((cs.map encP ++ (List.replicate (41 - cs.length) [encP c]).flatten).length : Int) ≤ 40); omega)
      rw [this, Bool.and_false]
    refine at_seq (at_asgI (ei_take hC rfl ((ev_len (ev_var (d := encCs cs) rfl).rt).is (by rw [List.length_map])) (by omega) (by omega)) fun at_ hat => ?_)
    obtain ⟨m, rfl, hm⟩ : ∃ m : Nat, at_ = m ∧ m < cs.length := ⟨at_.toNat, by omega, by omega⟩
    obtain ⟨c2, hc2⟩ : ∃ c, cs[m]? = some c := ⟨_, List.getElem?_eq_getElem hm⟩
    obtain ⟨g1, g2⟩ := hg.2.2.2 c2 (List.mem_of_getElem? hc2)
    refine at_seq (at_asgR (er_call (P := badP N) hC rfl (ear_d (ea_cons (ev_var rfl) (ea_cons (ev_ixN (n := 0) (ev_ixN (d := encP c2) (ev_var (d := encCs cs) rfl).rt (ev_var rfl) (encCs_at hc2)).rt ev_int rfl) (ea_cons (ev_ixN (n := 1) (ev_ixN (d := encP c2) (ev_var (d := encCs cs) rfl).rt (ev_var rfl) (encCs_at hc2)).rt ev_int rfl) ea_nil)))) fun ds e => ?_) fun bad hb => ?_)
    · subst e
      exact ⟨⟨N, c2.1, c2.2, hg.2.1, g1, g2, rfl⟩, fun d hd => hd N c2.1 c2.2 rfl⟩
    refine fin (EvD.r (ev_catT (ev_catT ((ev_slT (ev_var (d := encCs cs) rfl) eo_none (eo_some (ev_var rfl))).is (by rw [cut_to])) (ev_tup (ea_cons (ev_var (d := bad) rfl) ea_nil) (by simp)) (by simp; omega)) ((ev_slT (ev_var (d := encCs cs) rfl) (eo_some (i := ((m + 1 : Nat) : Int)) ((ev_add (ev_var rfl) ev_int).is rfl)) eo_none).is (by rw [cut_from])) (by simp; omega))) fun d e => ?_
    subst e
    exact ⟨not_pairs (d := bad) (by simp) hb, by show ((cs.map encP).take m ++ [bad] ++ (cs.map encP).drop (m + 1)).length ≤ _; simp; omega⟩
end
end Eh

namespace Eh
open PySem PySem.Spec PyProof.Rows L2
def t_law (K : PySem.W.Frag) (w : World) (sp__law_bad_calls : Sp) (sp__law_bad_number : Sp) (sp__law_closing : Sp) (sp__law_drawn_calls : Sp) (sp__law_pool : Sp) (sp__law_refusal : Sp) (sp__law_row_fits : Sp) (sp__law_same : Sp) (sp__law_take : Sp) (sp__law_walk : Sp) (E : XK) : TS :=
  (tSeq (tAsg (tCall sp__law_pool [] E (tCons (tVar 0) tNil)) (gName 1))
    (tSeq (tAsg (tOp (rAddA K) (tC (.int 2)) (tCall sp__law_take [] E (tCons (tVar 1) (tCons (tC (.int 5)) tNil)))) (gName 2))
    (tSeq (tAsg (tCall sp__law_drawn_calls [] E (tCons (tVar 1) (tCons (tVar 2) tNil))) (gName 3))
    (tSeq (tAsg (tOp (rAddA K) (tVar 3) (tCall sp__law_closing [] E (tCons (tVar 2) tNil))) (gName 4))
    (tSeq (tAsg (tC (.int 0)) (gName 5))
    (tSeq (tFor (iRng1 (tCons (tCB (rLenA K) (tCons (tVar 4) tNil)) tNil)) (gName 6) (tIfS (tTest (tOp (rNeA K) (tCB (rMin K) (tCons (tOp (rIx K) (tCall sp__law_walk [] E (tCons (tVar 2) (tCons (tSl (rSlB K) (tVar 4) tNoPart (tPart (tVar 6))) tNil))) (tC (.int 0))) tNil)) (tOp rSubI (tOp rShlI (tC (.int 1)) (tVar 2)) (tC (.int 1))))) (tAsg (tVar 6) (gName 5)) tNext))
    (tSeq (tAsg (tCall sp__law_take [] E (tCons (tVar 1) (tCons (tOp (rAddA K) (tCB (rLenA K) (tCons (tVar 4) tNil)) (tC (.int 1))) tNil))) (gName 7))
    (tSeq (tIfS (tOr (tNot (tB (tCall sp__law_row_fits [] E (tCons (tVar 2) (tCons (tTup tNil) (tCons (tC (.bl false)) tNil)))))) (tNot (tB (tCall sp__law_row_fits [] E (tCons (tVar 2) (tCons (tSl (rSlB K) (tVar 4) tNoPart (tPart (tVar 7))) (tCons (tOp rGtI (tVar 7) (tVar 5)) tNil))))))) (tRet (tC (.bl false))) tNext)
    (tSeq (tIfS (tOr (tNot (tB (tCall sp__law_row_fits [] E (tCons (tVar 2) (tCons (tSl (rSlB K) (tVar 4) tNoPart (tPart (tVar 5))) (tCons (tC (.bl false)) tNil)))))) (tNot (tB (tCall sp__law_row_fits [] E (tCons (tVar 2) (tCons (tSl (rSlB K) (tVar 4) tNoPart (tPart (tOp (rAddA K) (tVar 5) (tC (.int 1))))) (tCons (tC (.bl true)) tNil))))))) (tRet (tC (.bl false))) tNext)
    (tSeq (tAsg (tOp (rAddA K) (tVar 4) (tOp (rMulA K) (tTup (tCons (tOp (rIx K) (tVar 4) (tOp rSubI (tCB (rLenA K) (tCons (tVar 4) tNil)) (tC (.int 1)))) tNil)) (tOp rSubI (tC (.int 40)) (tCB (rLenA K) (tCons (tVar 4) tNil))))) (gName 8))
    (tSeq (tIfS (tOr (tNot (tB (tCall sp__law_row_fits [] E (tCons (tVar 2) (tCons (tVar 4) (tCons (tC (.bl true)) tNil)))))) (tNot (tB (tCall sp__law_row_fits [] E (tCons (tVar 2) (tCons (tVar 8) (tCons (tC (.bl true)) tNil))))))) (tRet (tC (.bl false))) tNext)
    (tSeq (tAsg (tCall sp__law_bad_number [] E (tCons (tVar 1) tNil)) (gName 9))
    (tSeq (tAsg (tCall sp__law_bad_calls [] E (tCons (tVar 1) (tCons (tVar 2) (tCons (tVar 4) tNil)))) (gName 10))
    (tSeq (tAsg (tOp (rAddA K) (tVar 8) (tTup (tCons (tOp (rIx K) (tVar 4) (tC (.int 0))) tNil))) (gName 11))
    (tSeq (tFor (iRng1 (tCons (tC (.int 4)) tNil)) (gName 12) (tSeq (tIfS (tNot (tB (tCall sp__law_same [] E (tCons (tThen (tCall sp__law_refusal [] E (tCons (tVar 12) (tCons (tVar 2) (tCons (tVar 4) tNil)))) (kTup K)) (tCons (tTup (tCons (tTup tNil) (tCons (tC (.int 0)) tNil))) tNil))))) (tRet (tC (.bl false))) tNext)
    (tSeq (tIfS (tNot (tB (tCall sp__law_same [] E (tCons (tThen (tCall sp__law_refusal [] E (tCons (tVar 12) (tCons (tVar 9) (tCons (tVar 4) tNil)))) (kTup K)) (tCons (tTup (tCons (tTup (tCons (tC (.int 0)) tNil)) (tCons (tC (.int 0)) tNil))) tNil))))) (tRet (tC (.bl false))) tNext)
    (tSeq (tIfS (tNot (tB (tCall sp__law_same [] E (tCons (tThen (tCall sp__law_refusal [] E (tCons (tVar 12) (tCons (tVar 2) (tCons (tVar 10) tNil)))) (kTup K)) (tCons (tTup (tCons (tTup (tCons (tC (.int 1)) tNil)) (tCons (tC (.int 0)) tNil))) tNil))))) (tRet (tC (.bl false))) tNext)
    (tSeq (tIfS (tNot (tB (tCall sp__law_same [] E (tCons (tThen (tCall sp__law_refusal [] E (tCons (tVar 12) (tCons (tVar 9) (tCons (tVar 10) tNil)))) (kTup K)) (tCons (tTup (tCons (tTup (tCons (tC (.int 0)) tNil)) (tCons (tC (.int 0)) tNil))) tNil))))) (tRet (tC (.bl false))) tNext)
    (tIfS (tNot (tB (tCall sp__law_same [] E (tCons (tThen (tCall sp__law_refusal [] E (tCons (tVar 12) (tCons (tVar 2) (tCons (tVar 11) tNil)))) (kTup K)) (tCons (tTup (tCons (tTup (tCons (tC (.int 1)) tNil)) (tCons (tC (.int 0)) tNil))) tNil))))) (tRet (tC (.bl false))) tNext))))))
    (tRet (tC (.bl true))))))))))))))))))

def sp_drawn1 : Sp := spD Pl (fun ds => ∃ N : Nat, 2 ≤ N ∧ N ≤ 6 ∧ ds = [.int (N : Nat)]) fun ds d => ∃ (N : Nat) (cs : Cs), ds = [.int (N : Nat)] ∧ d = encCs cs ∧ GoodL N cs ∧ cs.length + 2 * N ≤ 43
section
variable {K : PySem.W.Frag} {w : World} {C C' : Addr}
theorem pure_drawn1 (vs : List V) (H : Hp) (Q : VK) (E : XK) (h : sp_drawn1 vs H Q E) :
    t__law_drawn_calls K w sp__law_take E { nx := fun _ H' => Q .non H', rt := Q } (L2.start ["pool", "n", "left", "members", "k", "among", "room", "shape", "many", "calls", "at", "one", "other"] vs) H :=
  spD_body (N := ["pool", "n", "left", "members", "k", "among", "room", "shape", "many", "calls", "at", "one", "other"]) (t := fun E => t__law_drawn_calls K w sp__law_take E) h fun C ds hC hpre B F0 D hr => by
    obtain ⟨N, h2, h6, rfl⟩ := hpre
    refine at_seq (at_asgN (ds := intsD (List.range N)) (en_lstRg (ev_var rfl) (by omega)) ?_)
    refine at_seq (at_asgN (ds := []) (en_lst ea_nil (by simp)) ?_)
    refine at_seq (at_forR (xs := List.range N) (enc := fun i : Nat => .int i) (vs := [4]) (fun t Γ => ∃ ls ms x, Γ = [.pool, .dat (.int (N : Nat)), .own (intsD ls), .own (intsD ms), x, .no, .no, .no, .no, .no, .no, .no, .no] ∧ (ms ++ ls).Perm (List.range N) ∧ ms.length = t)
      ⟨List.range N, [], _, rfl, List.Perm.refl _, rfl⟩ (if_rngN (ev_var rfl) (by omega)) (fun x Γ => Γ.set 4 (.dat (.int (x : Nat)))) (fun t x Γ _ _ => tg_name List.mem_cons_self) ?_ ?_)
    · rintro t x Γ hx ⟨ls, ms, a, rfl, hp, hm⟩ F1 H1 gr D' e1 e2 e3 e4
      have ht : t < N := by simpa using (List.getElem?_eq_some_iff.mp hx).1
      have hlen : ms.length + ls.length = N := by rw [← List.length_append, hp.length_eq, List.length_range]
      have hll : (intsD ls).length = ls.length := by unfold intsD; simp
      refine at_popTo (ds := intsD ms) (es := intsD ls) rfl rfl (by decide) (by unfold intsD; simp; omega) (ei_take hC rfl (ev_len (rl_own rfl).s) (by omega) (by omega)) (fun n hn => ⟨n.toNat, by omega, by omega, by omega⟩) fun m d hm2 hd => e2 _ ?_
      unfold intsD at hd
      rw [List.getElem?_map] at hd
      cases hq : ls[m]? with
      | none => rw [hq] at hd; cases hd
      | some k =>
        rw [hq] at hd
        cases hd
        refine ⟨ls.eraseIdx m, ms ++ [k], .dat (.int (x : Nat)), ?_, perm_pop hp hq, by rw [List.length_append, hm]; rfl⟩
        unfold intsD
        rw [List.eraseIdx_eq_take_drop_succ, List.eraseIdx_eq_take_drop_succ, List.map_append, List.map_append, List.map_take, List.map_drop]; rfl
    rintro Γ ⟨ls, ms, a, rfl, hp, hm⟩
    rw [List.length_range] at hm
    have hls : ls = [] := by
      have : ms.length + ls.length = N := by rw [← List.length_append, hp.length_eq, List.length_range]
      exact List.length_eq_zero_iff.mp (by omega)
    subst hls
    rw [List.append_nil] at hp
    dsimp only
    refine at_seq (at_asgI (ei_add (EvD.i ev_int) (ei_take hC rfl (ev_sub (ev_var rfl) ev_int) (by omega) (by omega)) (P := fun j => 2 ≤ j ∧ j ≤ N) fun i j e hj => by omega) fun am ham => ?_)
    obtain ⟨am, rfl⟩ : ∃ m : Nat, am = m := ⟨am.toNat, by omega⟩
    have key3 : ∀ (many : Nat) (x y : Sl), many + 2 * N ≤ 43 → At C B F0 [.pool, .dat (.int (N : Nat)), .own (intsD []), .own (intsD ms), a, .dat (.int (am : Nat)), x, y, .dat (.int (many : Nat)), .no, .no, .no, .no]
        ((tSeq (tAsg (tLst tNil) (gName 9))
    (tSeq (tFor (iRng1 (tCons (tVar 8) tNil)) (gName 4) (tIfS (tAnd (tTest (tOp rGtI (tVar 4) (tC (.int 0)))) (tTest (tOp (rEqA K) (tCall sp__law_take [] E (tCons (tVar 0) (tCons (tC (.int 4)) tNil))) (tC (.int 0))))) (tDrop (tBM K "list" rAppend (tVar 9) (tCons (tOp (rIx K) (tVar 9) (tOp rSubI (tVar 4) (tC (.int 1)))) tNil))) (tSeq (tAsg (tCall sp__law_take [] E (tCons (tVar 0) (tCons (tVar 5) tNil))) (gName 10))
    (tSeq (tAsg (tOp (rIx K) (tVar 3) (tVar 10)) (gName 11))
    (tSeq (tAsg (tOp (rIx K) (tVar 3) (tOp rModI (tCB rIntA (tCons (tOp (rAddA K) (tOp (rAddA K) (tVar 10) (tC (.int 1))) (tCall sp__law_take [] E (tCons (tVar 0) (tCons (tOp rSubI (tVar 5) (tC (.int 1))) tNil)))) tNil)) (tVar 5))) (gName 12))
    (tDrop (tBM K "list" rAppend (tVar 9) (tCons (tTup (tCons (tCB rMin2 (tCons (tVar 11) (tCons (tVar 12) tNil))) (tCons (tCB rMax2 (tCons (tVar 11) (tCons (tVar 12) tNil))) tNil))) tNil))))))))
    (tRet (tThen (tVar 9) (kTup K))))) D) := fun many xx yy hml => by
      refine at_seq (at_asgN (ds := []) (en_lst ea_nil (by simp)) ?_)
      refine at_seq (at_forR (xs := List.range many) (enc := fun i : Nat => .int i) (vs := [4]) (fun t Γ => ∃ (cs : Cs) (x y u v : Sl), Γ = [.pool, .dat (.int (N : Nat)), .own (intsD []), .own (intsD ms), x, .dat (.int (am : Nat)), xx, yy, .dat (.int (many : Nat)), .own (cs.map encP), y, u, v] ∧ GoodL N cs ∧ cs.length = t)
        ⟨[], _, _, _, _, rfl, (fun c hc => absurd hc List.not_mem_nil), rfl⟩ (if_rngN (ev_var rfl) (by omega)) (fun x Γ => Γ.set 4 (.dat (.int (x : Nat)))) (fun t x Γ _ _ => tg_name List.mem_cons_self) ?_ ?_)
      · rintro t x Γ hx ⟨cs, a1, a2, a3, a4, rfl, hgc, hlc⟩ F1 H1 gr D' e1 e2 e3 e4
        have ht : t < many := by simpa using (List.getElem?_eq_some_iff.mp hx).1
        rw [List.getElem?_range ht] at hx
        cases hx
        have add : ∀ (c : Nat × Nat) (y u v : Sl), c.1 < c.2 ∧ c.2 < N → At C B F1 [.pool, .dat (.int (N : Nat)), .own (intsD []), .own (intsD ms), .dat (.int (t : Nat)), .dat (.int (am : Nat)), xx, yy, .dat (.int (many : Nat)), .own (cs.map encP ++ [encP c]), y, u, v] D'.nx := fun c y u v hc =>
          e2 _ ⟨cs ++ [c], _, _, _, _, by rw [List.map_append]; rfl, fun d hd => (List.mem_append.mp hd).elim (hgc d) fun h => by rw [List.mem_singleton.mp h]; exact hc, by rw [List.length_append, hlc]; rfl⟩
        refine at_ifR (Pb := fun b => b = true → 0 < t) (etr_and (etr_d (et_test (ev_gt (ev_var rfl) ev_int))) (fun _ => etr_any (etr_eq (ei_take hC rfl ev_int (by decide) (by decide)) (EvD.i ev_int) fun _ _ _ _ => trivial) (P := fun _ => True) fun _ => trivial) (fun _ h => nomatch h) fun b hb _ _ => ?_) (fun hpos => ?_) fun _ => ?_
        · have := of_decide_eq_true hb.symm; omega
        · have hpos := hpos rfl
          obtain ⟨c, hc⟩ : ∃ c, cs[t - 1]? = some c := ⟨_, List.getElem?_eq_getElem (by omega)⟩
          exact at_append (ds := cs.map encP) rfl (by rw [List.length_map]; omega) (ev_ixN (n := t - 1) (rl_own rfl).s ((ev_sub (ev_var rfl) ev_int).is (by congr 1; omega)) (encCs_at hc)) (add c _ _ _ (hgc c (List.mem_of_getElem? hc)))
        · refine at_seq (at_asgI (ei_take hC rfl (ev_var rfl) (by omega) (by omega)) fun at_ hat => ?_)
          obtain ⟨at_, rfl⟩ : ∃ m : Nat, at_ = m := ⟨at_.toNat, by omega⟩
          obtain ⟨one, ho, ho2⟩ := at_perm hp (i := at_) (by omega)
          refine at_seq (at_asg (ev_ixN (rl_own rfl).s (ev_var rfl) (ints_at ho)) ?_)
          refine at_seq (at_asgI (P := fun d => ∃ m : Nat, d = m ∧ m < N ∧ m ≠ one) (EvR.int (er_ix (rs_own rfl) (ei_mod (P := fun i => ∃ j : Nat, i = j ∧ j < am ∧ j ≠ at_) (ei_int (ei_add (P := fun i => ∃ r : Nat, i = at_ + 1 + r ∧ (r : Int) < am - 1) (EvD.i (ev_add (ev_var rfl) ev_int)) (ei_take hC rfl (ev_sub (ev_var rfl) ev_int) (by omega) (by omega)) fun i j e hj => ?_)) (EvD.i (ev_var rfl)) fun i j hi e => ?_) fun ds i e hi => ?_)) fun d hd => ?_)
          · subst e
            exact ⟨j.toNat, by omega, by omega⟩
          · subst e
            obtain ⟨r, rfl, hr2⟩ := hi
            refine ⟨by omega, ((at_ + 1 + r) % am : Nat), by simp, Nat.mod_lt _ (by omega), ?_⟩
            by_cases hlt : at_ + 1 + r < am
            · rw [Nat.mod_eq_of_lt hlt]; omega
            · rw [Nat.mod_eq_sub_mod (by omega), Nat.mod_eq_of_lt (by omega)]; omega
          · subst e
            obtain ⟨j, rfl, hj, hj2⟩ := hi
            obtain ⟨m, hm2, hm3⟩ := at_perm hp (i := j) (by omega)
            exact ⟨.int (m : Nat), atI_nat (ints_at hm2), (m : Int), ⟨m, rfl, hm3, perm_ne hp hm2 ho hj2⟩, rfl⟩
          · obtain ⟨m, rfl, hm2, hm3⟩ := hd
            obtain ⟨c, hc1, hc2, hc3⟩ := pair_lt ho2 hm2 (Ne.symm hm3)
            exact at_append (ds := cs.map encP) rfl (by rw [List.length_map]; omega) ((ev_tup (ea_cons (ev_min2 (ev_var rfl) (ev_var rfl)) (ea_cons (ev_max2 (ev_var rfl) (ev_var rfl)) ea_nil)) (by simp)).is hc3) (add c _ _ _ ⟨hc1, hc2⟩)
      · rintro Γ ⟨cs, a1, a2, a3, a4, rfl, hgc, hlc⟩
        rw [List.length_range] at hlc
        exact at_ret hr (ev_tupleL (rl_own rfl)) ⟨N, cs, rfl, rfl, hgc, by omega⟩
    refine at_seq (at_asg (d := .int (43 - 2 * (N : Int))) ((ev_sub ev_int (ev_sub (ev_mul ev_int (ev_var rfl) (.inl ⟨by decide, by decide⟩)) ev_int)).is (by congr 1; omega)) ?_)
    refine at_seq (at_asgI (ei_take hC rfl ev_int (by decide) (by decide)) fun shape hs => ?_)
    refine at_seq (at_asgI (ei_take hC rfl ev_int (by decide) (by decide)) fun many hm9 => ?_)
    obtain ⟨many, rfl⟩ : ∃ m : Nat, many = m := ⟨many.toNat, by omega⟩
    refine at_seq (at_ifR (etr_d (et_test (ev_eqI (ev_var rfl) ev_int))) (fun _ => ?_) fun _ => ?_)
    · refine at_asgI (ei_take hC rfl ev_int (by decide) (by decide)) fun many hm => ?_
      obtain ⟨many, rfl⟩ : ∃ m : Nat, many = m := ⟨many.toNat, by omega⟩
      exact key3 many _ _ (by omega)
    · refine at_ifR (etr_d (et_test (ev_eqI (ev_var rfl) ev_int))) (fun _ => ?_) fun _ => at_next (key3 many _ _ (by omega))
      refine at_asgI (ei_take hC rfl (ev_add (ev_var rfl) ev_int) (by omega) (by omega)) fun many hm => ?_
      obtain ⟨many, rfl⟩ : ∃ m : Nat, many = m := ⟨many.toNat, by omega⟩
      exact key3 many _ _ (by omega)
end
end Eh

namespace Eh
open PySem PySem.Spec PyProof.Rows L2
theorem rep_flat (k : Nat) (c : Nat × Nat) : (List.replicate k [encP c]).flatten = (List.replicate k c).map encP := by
  induction k with
  | zero => rfl
  | succ n ih => rw [List.replicate_succ, List.replicate_succ, List.flatten_cons, ih]; rfl
theorem good_take {N : Nat} {cs : Cs} (h : GoodC N cs) (t : Nat) : GoodC N (cs.take t) := ⟨h.1, h.2.1, by have := h.2.2.1; rw [List.length_take]; omega, fun c hc => h.2.2.2 c (List.mem_of_mem_take hc)⟩
theorem pl_ref {n : Nat} (j : List Nat) (hj : j.length ≤ 10) : PlD (n + 2) (.tuple [.tuple (j.map fun k : Nat => .int k), .int 0]) := pl_tup (by simp) fun x hx => by
  rcases List.mem_cons.mp hx with rfl | hx
  · exact pl_tup (by simp; omega) fun y hy => by
      obtain ⟨k, _, rfl⟩ := List.mem_map.mp hy
      exact pl_int
  · rw [List.mem_singleton.mp hx]; exact pl_int
section
variable {K : PySem.W.Frag} {w : World} {C C' : Addr}
theorem pure_law1 (vs : List V) (H : Hp) (Q : VK) (E : XK) (h : sp_law K vs H Q E) :
    t_law K w sp_badc sp_badn (spR R_closing) sp_drawn1 (sp__law_pool K) (spR R_refusal) (spR R_row) (spR (R_same 9)) sp__law_take (spR R_walk) E
      { nx := fun _ H' => Q .non H', rt := Q } (L2.start ["script", "pool", "n", "drawn", "calls", "last", "k", "cut", "most", "wrong", "spoilt", "longer", "which"] vs) H := by
  obtain ⟨a, ns, rfl, hz, hl, hq⟩ := h
  refine law_pool (by decide) hz hl hq fun p B D hC hr => ?_
  refine at_seq (at_asgI (ei_add (EvD.i ev_int) (ei_take hC rfl ev_int (by decide) (by decide)) (P := fun j => 2 ≤ j ∧ j ≤ 6) fun i j e hj => by omega) fun N hN => ?_)
  obtain ⟨N, rfl⟩ : ∃ m : Nat, N = m := ⟨N.toNat, by omega⟩
  refine at_seq (at_asgR (er_call (P := fun d => ∃ cs, d = encCs cs ∧ GoodL N cs ∧ cs.length + 2 * N ≤ 43) hC rfl (ear_d (ea_cons (ev_var rfl) ea_nil)) fun ds e => ?_) fun d hd => ?_)
  · subst e
    exact ⟨⟨N, by omega, by omega, rfl⟩, fun d ⟨M, cs, e1, e2, hg⟩ => by
      have e3 := PyData.int.inj (List.cons.inj e1).1
      have e4 : N = M := by omega
      subst e4
      exact ⟨cs, e2, hg⟩⟩
  obtain ⟨dr, rfl, hgd, hld⟩ := hd
  have h2 : 2 ≤ N := by omega
  have h6 : N ≤ 6 := by omega
  have hcl := closing_len N
  have hg : GoodC N (dr ++ closing N) := ⟨h2, h6, by rw [List.length_append]; omega, fun c hc => (List.mem_append.mp hc).elim (hgd c) (closing_good h2 c)⟩
  have hall : allB N (kn (dr ++ closing N)) = true := closing_all h2 dr
  have hlen : (dr ++ closing N).length = dr.length + ((N - 1) + (N - 2)) := by rw [List.length_append, hcl]
  dsimp only
  refine at_seq (at_asg (d := encCs (dr ++ closing N)) ((ev_catT (ev_var (d := encCs dr) rfl) (ev_call (d := encCs (closing N)) (ea_cons (ev_var rfl) ea_nil) ⟨N, h2, h6, rfl, rfl⟩) (by rw [List.length_map, List.length_map]; omega)).is (by unfold encCs; rw [List.map_append])) ?_)
  generalize hcs : dr ++ closing N = cs at hg hall hlen
  have h40 := hg.2.2.1
  dsimp only
  refine at_seq (at_asg ev_int ?_)
  refine at_seq (at_forR (xs := List.range cs.length) (enc := fun i : Nat => .int i) (vs := [6]) (fun t Γ => ∃ (L : Nat) (x : Sl), Γ = [.no, .pool, .dat (.int (N : Nat)), .dat (encCs dr), .dat (encCs cs), .dat (.int (L : Nat)), x, .no, .no, .no, .no, .no, .no] ∧ L < cs.length ∧ allB N (kn (cs.take L)) = false ∧ ∀ k < t, L < k → allB N (kn (cs.take k)) = true)
    ⟨0, _, rfl, by omega, not_all_nil h2, fun k hk => absurd hk (Nat.not_lt_zero _)⟩ (if_rngN ((ev_len (ev_var (d := encCs cs) rfl).rt).is (by rw [List.length_map])) (by omega)) (fun x Γ => Γ.set 6 (.dat (.int (x : Nat)))) (fun t x Γ _ _ => tg_name List.mem_cons_self) ?_ ?_)
  · rintro t x Γ hx ⟨L, y, rfl, hL, hLn, hLa⟩ F1 H1 gr D' e1 e2 e3 e4
    have ht : t < cs.length := by simpa using (List.getElem?_eq_some_iff.mp hx).1
    rw [List.getElem?_range ht] at hx
    cases hx
    obtain ⟨m, hm1, hm2⟩ := min_ex ((List.range N).map fun p => ((maskN (kn (cs.take t) p) N : Nat) : Int)) (by
      intro e
      have := congrArg List.length e
      simp at this
      omega)
    refine at_if (b := !allB N (kn (cs.take t))) ((et_test (ev_neI (ev_minL ((EvD.is (ev_ixN (n := 0) (ev_call (d := walkD N (cs.take t)) (ea_cons (ev_var rfl) (ea_cons ((ev_slT (ev_var (d := encCs cs) rfl) eo_none (eo_some (ev_var rfl))).is (by rw [cut_to]; unfold encCs; rw [List.map_take])) ea_nil)) ⟨N, _, good_take hg t, rfl, rfl⟩).rl.s ev_int rfl) (by rw [masks_ints])).rl) hm1 hm2) (ev_sub (ev_shl ev_int (ev_var rfl) ⟨by omega, by omega, by decide⟩) ev_int))).is (by rw [min_full hm1 hm2])) (fun hb => ?_) fun hb => ?_
    · refine at_asg (ev_var rfl) (e2 _ ⟨t, _, rfl, ht, by simpa using hb, fun k hk h => absurd h (by omega)⟩)
    · refine at_next (e2 _ ⟨L, _, rfl, hL, hLn, fun k hk h => ?_⟩)
      by_cases e : k = t
      · subst e; simpa using hb
      · exact hLa k (by omega) h
  rintro Γ ⟨L, x, rfl, hL, hLn, hLa⟩
  rw [List.length_range] at hLa
  have hval : ∀ t ≤ cs.length, allB N (kn (cs.take t)) = decide (L < t) := fun t ht => by
    by_cases h : L < t
    · rw [decide_eq_true h]
      by_cases e : t = cs.length
      · subst e; rw [List.take_length]; exact hall
      · exact hLa t (by omega) h
    · rw [decide_eq_false h]
      cases e : allB N (kn (cs.take t)) with
      | false => rfl
      | true => rw [allB_take (by omega) e] at hLn; cases hLn
  dsimp only
  have hlenE : ∀ {Γ : List Sl}, Γ[4]? = some (.dat (encCs cs)) → EvD (tCB (rLenA K) (tCons (tVar 4) tNil)) Γ (.int (cs.length : Nat)) := fun h => (ev_len (ev_var (d := encCs cs) h).rt).is (by rw [List.length_map])
  refine at_seq (at_asgI (ei_take hC rfl (ev_add (hlenE rfl) ev_int) (by omega) (by omega)) fun cut hcut => ?_)
  obtain ⟨cut, rfl⟩ : ∃ m : Nat, cut = m := ⟨cut.toNat, by omega⟩
  have row : ∀ {Γ : List Sl} {tc tb : TE} {cs' : Cs} {b : Bool}, Γ[2]? = some (.dat (.int (N : Nat))) → EvD tc Γ (encCs cs') → EvD tb Γ (.bool b) → GoodC N cs' → allB N (kn cs') = b → EvT (tNot (tB (tCall (spR R_row) [] E (tCons (tVar 2) (tCons tc (tCons tb tNil)))))) Γ false := fun h1 hc hb hg e => by
    subst e
    exact (et_not (et_B (ev_call (d := .bool true) (ea_cons (ev_var h1) (ea_cons hc (ea_cons hb ea_nil))) ⟨N, _, hg, rfl, rfl⟩))).is rfl
  have cutE : ∀ {Γ : List Sl} {te : TE} (t : Nat), Γ[4]? = some (.dat (encCs cs)) → EvD te Γ (.int (t : Nat)) → EvD (tSl (rSlB K) (tVar 4) tNoPart (tPart te)) Γ (encCs (cs.take t)) := fun t h ht => (ev_slT (ev_var (d := encCs cs) h) eo_none (eo_some ht)).is (by rw [cut_to]; unfold encCs; rw [List.map_take])
  dsimp only
  refine at_seq (at_ifF (et_or (a := false) (b := false) (row rfl (cs' := []) (ev_tup ea_nil (by simp)) ev_bl ⟨h2, h6, by simp, fun c hc => absurd hc List.not_mem_nil⟩ (not_all_nil h2)) fun _ =>
    row rfl (cutE cut rfl (ev_var rfl)) (ev_gt (ev_var rfl) (ev_var rfl)) (good_take hg cut) (by rw [hval cut (by omega)]; simp)) (at_next ?_))
  refine at_seq (at_ifF (et_or (a := false) (b := false) (row rfl (cutE L rfl (ev_var rfl)) ev_bl (good_take hg L) hLn) fun _ =>
    row rfl (cutE (L + 1) rfl ((ev_add (ev_var rfl) ev_int).is rfl)) ev_bl (good_take hg (L + 1)) (by rw [hval (L + 1) (by omega)]; simp)) (at_next ?_))
  obtain ⟨cl, hcl2⟩ : ∃ c, cs[cs.length - 1]? = some c := ⟨_, List.getElem?_eq_getElem (by omega)⟩
  have hgm : GoodC N (cs ++ List.replicate (40 - cs.length) cl) := ⟨h2, h6, by simp; omega, fun c hc => (List.mem_append.mp hc).elim (hg.2.2.2 c) fun h => by
    rw [(List.mem_replicate.mp h).2]; exact hg.2.2.2 cl (List.mem_of_getElem? hcl2)⟩
  refine at_seq (at_asg (d := encCs (cs ++ List.replicate (40 - cs.length) cl)) ((ev_catT (ev_var (d := encCs cs) rfl) (ev_repA (k := 40 - cs.length) (ev_tup (ea_cons (ev_ixN (n := cs.length - 1) (ev_var (d := encCs cs) rfl).rt ((ev_sub (hlenE rfl) ev_int).is (by congr 1; omega)) (encCs_at hcl2)) ea_nil) (by simp)) ((ev_sub ev_int (hlenE rfl)).is (by congr 1; omega)) (by simp) (by omega) (by simp)) (by rw [rep_flat, List.length_map, List.length_map, List.length_replicate]; omega)).is (by rw [rep_flat]; unfold encCs; rw [List.map_append])) ?_)
  dsimp only
  refine at_seq (at_ifF (et_or (a := false) (b := false) (row rfl (ev_var rfl) ev_bl hg hall) fun _ => row rfl (ev_var rfl) ev_bl hgm (allB_mono hall)) (at_next ?_))
  refine at_seq (at_asgR (er_call (P := fun d => fromTo d 2 6 = false ∧ TupLe 100000 d) hC rfl ear_nil fun ds e => ⟨e, fun d hd => hd⟩) fun wr hwr => ?_)
  refine at_seq (at_asgR (er_call (P := fun d => okCalls d (N : Nat) = false ∧ TupLe 100000 d) hC rfl (ear_d (ea_cons (ev_var rfl) (ea_cons (ev_var rfl) ea_nil))) fun ds e => ?_) fun sp hsp => ?_)
  · subst e
    exact ⟨⟨N, cs, hg, by omega, rfl⟩, fun d hd => hd N cs hg rfl⟩
  obtain ⟨c0', hc0⟩ : ∃ c, cs[0]? = some c := ⟨_, List.getElem?_eq_getElem (by omega)⟩
  have hm40 : (cs ++ List.replicate (40 - cs.length) cl).length = 40 := by simp; omega
  generalize cs ++ List.replicate (40 - cs.length) cl = ms at hgm hm40
  dsimp only
  refine at_seq (at_asg (d := .tuple (ms.map encP ++ [encP c0'])) (ev_catT (ev_var (d := encCs ms) rfl) (ev_tup (ea_cons (ev_ixN (n := 0) (ev_var (d := encCs cs) rfl).rt ev_int (encCs_at hc0)) ea_nil) (by simp)) (by rw [List.length_map, hm40]; simp)) ?_)
  have hl41 : (ms.map encP ++ [encP c0']).length = 41 := by rw [List.length_append, List.length_map, hm40]; rfl
  have hlong : okCalls (.tuple (ms.map encP ++ [encP c0'])) (N : Nat) = false := by
    unfold okCalls
    have : decide (((tupOf (.tuple (ms.map encP ++ [encP c0']))).length : Int) ≤ 40) = false := decide_eq_false (by show ¬ (((ms.map encP ++ [encP c0']).length : Int) ≤ 40); omega)
    rw [this, Bool.and_false]
  have hzc : TupLe 100000 (encCs cs) := by show (cs.map encP).length ≤ _; rw [List.length_map]; omega
  have hzl : TupLe 100000 (.tuple (ms.map encP ++ [encP c0'])) := by show (ms.map encP ++ [encP c0']).length ≤ _; omega
  have hfN : fromTo (.int (N : Nat)) 2 6 = true := fromTo_nat (by omega) (by omega)
  dsimp only
  have ref : ∀ {Γ : List Sl} {tn td tj : TE} {m : Nat} {n d : PyData} {j : List Nat}, Γ[12]? = some (.dat (.int (m : Nat))) → m < 4 → EvD tn Γ n → EvD td Γ d → ChkR n d j → j.length ≤ 10 → EvD tj Γ (.tuple [.tuple (j.map fun k : Nat => .int k), .int 0]) →
      EvT (tNot (tB (tCall (spR (R_same 9)) [] E (tCons (tThen (tCall (spR R_refusal) [] E (tCons (tVar 12) (tCons tn (tCons td tNil)))) (kTup K)) (tCons tj tNil))))) Γ false := fun h1 hm hn hd hc hj htj =>
    (et_not (et_B (ev_same (ev_tupleL (EvD.rl (ev_call (d := refD _ (.int 0)) (ea_cons (ev_var h1) (ea_cons hn (ea_cons hd ea_nil))) ⟨_, _, _, _, hm, rfl, hc, rfl⟩))) htj rfl (pl_ref _ hj)))).is rfl
  have c0 : ChkR (.int (N : Nat)) (encCs cs) [] := .inl ⟨rfl, N, cs, hg, rfl, rfl⟩
  have c1 : ChkR wr (encCs cs) [0] := .inr ⟨hzc, .inl ⟨hwr.1, rfl⟩⟩
  have c2 : ChkR (.int (N : Nat)) sp [1] := .inr ⟨hsp.2, .inr ⟨hfN, hsp.1, rfl⟩⟩
  have c3 : ChkR wr sp [0] := .inr ⟨hsp.2, .inl ⟨hwr.1, rfl⟩⟩
  have c4 : ChkR (.int (N : Nat)) (.tuple (ms.map encP ++ [encP c0'])) [1] := .inr ⟨hzl, .inr ⟨hfN, hlong, rfl⟩⟩
  have t0 : ∀ {Γ : List Sl}, EvD (tTup (tCons (tTup tNil) (tCons (tC (.int 0)) tNil))) Γ (.tuple [.tuple (([] : List Nat).map fun k : Nat => .int k), .int 0]) := ev_tup (ea_cons (ev_tup ea_nil (by simp)) (ea_cons ev_int ea_nil)) (by simp)
  have t1 : ∀ {Γ : List Sl}, EvD (tTup (tCons (tTup (tCons (tC (.int 0)) tNil)) (tCons (tC (.int 0)) tNil))) Γ (.tuple [.tuple (([0] : List Nat).map fun k : Nat => .int k), .int 0]) := ev_tup (ea_cons (ev_tup (ea_cons ev_int ea_nil) (by simp)) (ea_cons ev_int ea_nil)) (by simp)
  have t2 : ∀ {Γ : List Sl}, EvD (tTup (tCons (tTup (tCons (tC (.int 1)) tNil)) (tCons (tC (.int 0)) tNil))) Γ (.tuple [.tuple (([1] : List Nat).map fun k : Nat => .int k), .int 0]) := ev_tup (ea_cons (ev_tup (ea_cons ev_int ea_nil) (by simp)) (ea_cons ev_int ea_nil)) (by simp)
  refine at_seq (at_forR (xs := List.range 4) (enc := fun i : Nat => .int i) (vs := [12]) (fun t Γ => ∃ y, Γ = [.no, .pool, .dat (.int (N : Nat)), .dat (encCs dr), .dat (encCs cs), .dat (.int (L : Nat)), x, .dat (.int (cut : Nat)), .dat (encCs ms), .dat wr, .dat sp, .dat (.tuple (ms.map encP ++ [encP c0'])), y]) ⟨.no, rfl⟩ (if_rngN (n := 4) ev_int (by decide)) (fun x Γ => Γ.set 12 (.dat (.int (x : Nat)))) (fun t x Γ _ _ => tg_name List.mem_cons_self) ?_ ?_)
  · rintro t z Γ hx ⟨y, rfl⟩ F1 H1 gr D' e1 e2 e3 e4
    have ht : t < 4 := by simpa using (List.getElem?_eq_some_iff.mp hx).1
    rw [List.getElem?_range ht] at hx
    cases hx
    have f0 := ref (Γ := [.no, .pool, .dat (.int (N : Nat)), .dat (encCs dr), .dat (encCs cs), .dat (.int (L : Nat)), x, .dat (.int (cut : Nat)), .dat (encCs ms), .dat wr, .dat sp, .dat (.tuple (ms.map encP ++ [encP c0'])), .dat (.int (t : Nat))]) (m := t) (tn := tVar 2) (td := tVar 4) rfl ht (ev_var rfl) (ev_var rfl) c0 (by simp) t0
    have f1 := ref (Γ := [.no, .pool, .dat (.int (N : Nat)), .dat (encCs dr), .dat (encCs cs), .dat (.int (L : Nat)), x, .dat (.int (cut : Nat)), .dat (encCs ms), .dat wr, .dat sp, .dat (.tuple (ms.map encP ++ [encP c0'])), .dat (.int (t : Nat))]) (m := t) (tn := tVar 9) (td := tVar 4) rfl ht (ev_var rfl) (ev_var rfl) c1 (by simp) t1
    have f2 := ref (Γ := [.no, .pool, .dat (.int (N : Nat)), .dat (encCs dr), .dat (encCs cs), .dat (.int (L : Nat)), x, .dat (.int (cut : Nat)), .dat (encCs ms), .dat wr, .dat sp, .dat (.tuple (ms.map encP ++ [encP c0'])), .dat (.int (t : Nat))]) (m := t) (tn := tVar 2) (td := tVar 10) rfl ht (ev_var rfl) (ev_var rfl) c2 (by simp) t2
    have f3 := ref (Γ := [.no, .pool, .dat (.int (N : Nat)), .dat (encCs dr), .dat (encCs cs), .dat (.int (L : Nat)), x, .dat (.int (cut : Nat)), .dat (encCs ms), .dat wr, .dat sp, .dat (.tuple (ms.map encP ++ [encP c0'])), .dat (.int (t : Nat))]) (m := t) (tn := tVar 9) (td := tVar 10) rfl ht (ev_var rfl) (ev_var rfl) c3 (by simp) t1
    have f4 := ref (Γ := [.no, .pool, .dat (.int (N : Nat)), .dat (encCs dr), .dat (encCs cs), .dat (.int (L : Nat)), x, .dat (.int (cut : Nat)), .dat (encCs ms), .dat wr, .dat sp, .dat (.tuple (ms.map encP ++ [encP c0'])), .dat (.int (t : Nat))]) (m := t) (tn := tVar 2) (td := tVar 11) rfl ht (ev_var rfl) (ev_var rfl) c4 (by simp) t2
    show At (plC p) B F1 [.no, .pool, .dat (.int (N : Nat)), .dat (encCs dr), .dat (encCs cs), .dat (.int (L : Nat)), x, .dat (.int (cut : Nat)), .dat (encCs ms), .dat wr, .dat sp, .dat (.tuple (ms.map encP ++ [encP c0'])), .dat (.int (t : Nat))] _
    refine at_seq ?_
    refine at_ifF f0 (at_next ?_)
    dsimp only
    refine at_seq ?_
    refine at_ifF f1 (at_next ?_)
    dsimp only
    refine at_seq ?_
    refine at_ifF f2 (at_next ?_)
    dsimp only
    refine at_seq ?_
    refine at_ifF f3 (at_next ?_)
    dsimp only
    exact at_ifF f4 (at_next (e2 _ ⟨_, rfl⟩))
  · rintro Γ ⟨y, rfl⟩
    exact at_ret hr ev_bl rfl
end
end Eh

namespace Eh
open PySem PySem.Spec PyProof.Rows L2
def topS (i : Nat) : Stmt := PySem.Challenge.pw_everyhands_k91_whole_calls_led.main.body.getD i (.Pass ⟨0, 0, 0, 0⟩)
abbrev s_is_integer : Stmt := topS 16
abbrev N_is_integer : List Str := ["value"]
theorem sc_is_integer : FnScope N_is_integer ["value"] (defScope s_is_integer) := ⟨rfl, rfl, rfl, by decide +kernel, rfl, by decide +kernel, by decide +kernel⟩
abbrev s_is_from_to : Stmt := topS 18
abbrev N_is_from_to : List Str := ["value", "least", "most"]
theorem sc_is_from_to : FnScope N_is_from_to ["value", "least", "most"] (defScope s_is_from_to) := ⟨rfl, rfl, rfl, by decide +kernel, rfl, by decide +kernel, by decide +kernel⟩
abbrev s_check_number : Stmt := topS 19
abbrev N_check_number : List Str := ["value", "least", "most"]
theorem sc_check_number : FnScope N_check_number ["value", "least", "most"] (defScope s_check_number) := ⟨rfl, rfl, rfl, by decide +kernel, rfl, by decide +kernel, by decide +kernel⟩
abbrev s_are_pairs : Stmt := topS 20
abbrev N_are_pairs : List Str := ["value", "people", "pair", "i", "j"]
theorem sc_are_pairs : FnScope N_are_pairs ["value", "people"] (defScope s_are_pairs) := ⟨rfl, rfl, rfl, by decide +kernel, rfl, by decide +kernel, by decide +kernel⟩
abbrev s_check_calls : Stmt := topS 24
abbrev N_check_calls : List Str := ["n", "calls"]
theorem sc_check_calls : FnScope N_check_calls ["n", "calls"] (defScope s_check_calls) := ⟨rfl, rfl, rfl, by decide +kernel, rfl, by decide +kernel, by decide +kernel⟩
abbrev s_led : Stmt := topS 25
abbrev N_led : List Str := ["n", "calls", "known", "found", "i", "j", "both", "person"]
theorem sc_led : FnScope N_led ["n", "calls"] (defScope s_led) := ⟨rfl, rfl, rfl, by decide +kernel, rfl, by decide +kernel, by decide +kernel⟩
abbrev s_known_after : Stmt := topS 26
abbrev N_known_after : List Str := ["n", "calls"]
theorem sc_known_after : FnScope N_known_after ["n", "calls"] (defScope s_known_after) := ⟨rfl, rfl, rfl, by decide +kernel, rfl, by decide +kernel, by decide +kernel⟩
abbrev s_all_know : Stmt := topS 27
abbrev N_all_know : List Str := ["n", "calls", "lot"]
theorem sc_all_know : FnScope N_all_know ["n", "calls"] (defScope s_all_know) := ⟨rfl, rfl, rfl, by decide +kernel, rfl, by decide +kernel, by decide +kernel⟩
abbrev s_first_needless : Stmt := topS 28
abbrev N_first_needless : List Str := ["n", "calls", "known", "at"]
theorem sc_first_needless : FnScope N_first_needless ["n", "calls"] (defScope s_first_needless) := ⟨rfl, rfl, rfl, by decide +kernel, rfl, by decide +kernel, by decide +kernel⟩
abbrev s_call_graph : Stmt := topS 29
abbrev N_call_graph : List Str := ["n", "calls", "person", "call"]
theorem sc_call_graph : FnScope N_call_graph ["n", "calls"] (defScope s_call_graph) := ⟨rfl, rfl, rfl, by decide +kernel, rfl, by decide +kernel, by decide +kernel⟩
abbrev s__law_pool : Stmt := topS 31
abbrev N__law_pool : List Str := ["script", "state", "great", "k"]
theorem sc__law_pool : FnScope N__law_pool ["script"] (defScope s__law_pool) := ⟨rfl, rfl, rfl, by decide +kernel, rfl, by decide +kernel, by decide +kernel⟩
abbrev s__law_take : Stmt := topS 32
abbrev N__law_take : List Str := ["pool", "many", "found", "state"]
theorem sc__law_take : FnScope N__law_take ["pool", "many"] (defScope s__law_take) := ⟨rfl, rfl, rfl, by decide +kernel, rfl, by decide +kernel, by decide +kernel⟩
abbrev s__law_same : Stmt := topS 33
abbrev N__law_same : List Str := ["found", "due", "k"]
theorem sc__law_same : FnScope N__law_same ["found", "due"] (defScope s__law_same) := ⟨rfl, rfl, rfl, by decide +kernel, rfl, by decide +kernel, by decide +kernel⟩
abbrev s__law_drawn_calls : Stmt := topS 34
abbrev N__law_drawn_calls : List Str := ["pool", "n", "left", "members", "k", "among", "room", "shape", "many", "calls", "at", "one", "other"]
theorem sc__law_drawn_calls : FnScope N__law_drawn_calls ["pool", "n"] (defScope s__law_drawn_calls) := ⟨rfl, rfl, rfl, by decide +kernel, rfl, by decide +kernel, by decide +kernel⟩
abbrev s__law_closing : Stmt := topS 35
abbrev N__law_closing : List Str := ["n", "k"]
theorem sc__law_closing : FnScope N__law_closing ["n"] (defScope s__law_closing) := ⟨rfl, rfl, rfl, by decide +kernel, rfl, by decide +kernel, by decide +kernel⟩
abbrev s__law_walk : Stmt := topS 36
abbrev N__law_walk : List Str := ["n", "calls", "known", "needless", "at", "one", "other", "both", "k"]
theorem sc__law_walk : FnScope N__law_walk ["n", "calls"] (defScope s__law_walk) := ⟨rfl, rfl, rfl, by decide +kernel, rfl, by decide +kernel, by decide +kernel⟩
abbrev s__law_lot : Stmt := topS 37
abbrev N__law_lot : List Str := ["mask", "n", "k"]
theorem sc__law_lot : FnScope N__law_lot ["mask", "n"] (defScope s__law_lot) := ⟨rfl, rfl, rfl, by decide +kernel, rfl, by decide +kernel, by decide +kernel⟩
abbrev s__law_row_fits : Stmt := topS 38
abbrev N__law_row_fits : List Str := ["n", "calls", "whole", "walk", "many", "mask", "k", "pair"]
theorem sc__law_row_fits : FnScope N__law_row_fits ["n", "calls", "whole"] (defScope s__law_row_fits) := ⟨rfl, rfl, rfl, by decide +kernel, rfl, by decide +kernel, by decide +kernel⟩
abbrev s__law_refusal : Stmt := topS 39
abbrev N__law_refusal : List Str := ["which", "n", "calls", "e", "kinds", "place", "k"]
theorem sc__law_refusal : FnScope N__law_refusal ["which", "n", "calls"] (defScope s__law_refusal) := ⟨rfl, rfl, rfl, by decide +kernel, rfl, by decide +kernel, by decide +kernel⟩
abbrev s__law_bad_number : Stmt := topS 40
abbrev N__law_bad_number : List Str := ["pool"]
theorem sc__law_bad_number : FnScope N__law_bad_number ["pool"] (defScope s__law_bad_number) := ⟨rfl, rfl, rfl, by decide +kernel, rfl, by decide +kernel, by decide +kernel⟩
abbrev s__law_bad_pair : Stmt := topS 41
abbrev N__law_bad_pair : List Str := ["pool", "n", "one", "other", "kind"]
theorem sc__law_bad_pair : FnScope N__law_bad_pair ["pool", "n", "one", "other"] (defScope s__law_bad_pair) := ⟨rfl, rfl, rfl, by decide +kernel, rfl, by decide +kernel, by decide +kernel⟩
abbrev s__law_bad_calls : Stmt := topS 42
abbrev N__law_bad_calls : List Str := ["pool", "n", "calls", "kind", "at", "bad"]
theorem sc__law_bad_calls : FnScope N__law_bad_calls ["pool", "n", "calls"] (defScope s__law_bad_calls) := ⟨rfl, rfl, rfl, by decide +kernel, rfl, by decide +kernel, by decide +kernel⟩
abbrev s_law : Stmt := topS 43
abbrev N_law : List Str := ["script", "pool", "n", "drawn", "calls", "last", "k", "cut", "most", "wrong", "spoilt", "longer", "which"]
theorem sc_law : FnScope N_law ["script"] (defScope s_law) := ⟨rfl, rfl, rfl, by decide +kernel, rfl, by decide +kernel, by decide +kernel⟩
theorem der_is_integer {P : Program} {w : World} {K : PySem.W.Frag} {mg : Str → Option Value} {base : Heap} {f : Addr} (n_bool : mg "bool" = none) (n_int : mg "int" = none) (n_isinstance : mg "isinstance" = none) (cdv : Value) (A : Around) (outer : List Env) (s : Shared) (H : Hp) (E : XK) (hr : Room 0 (A.deeper (envOfC "is_integer" (defScope s_is_integer) s.heap.objs.size f cdv))) :
    PSs (cxOf (L2N.CX P w) P w K mg base N_is_integer "is_integer" (defScope s_is_integer) f cdv A outer s H E) (defBody s_is_integer) (t_is_integer K w E) :=
  (pss_one (ps_ret (pe_and (pe_callB call_isi (by rfl) n_isinstance (by decide +kernel) (pa_cons (pv 0) (pa_cons (pe_bltn (v := .ty "int") (by rfl) n_int (by decide +kernel) rfl) pa_nil))) (pe_one (pe_not (pe_callB call_isi (by rfl) n_isinstance (by decide +kernel) (pa_cons (pv 0) (pa_cons (pe_bltn (v := .ty "bool") (by rfl) n_bool (by decide +kernel) rfl) pa_nil))))))))
theorem der_is_from_to {P : Program} {w : World} {K : PySem.W.Frag} {mg : Str → Option Value} {base : Heap} {f : Addr} {sp_is_integer : Sp} (cl_is_integer : Cl P w K mg base 1 "is_integer" sp_is_integer) (cdv : Value) (A : Around) (outer : List Env) (s : Shared) (H : Hp) (E : XK) (hr : Room 1 (A.deeper (envOfC "is_from_to" (defScope s_is_from_to) s.heap.objs.size f cdv))) :
    PSs (cxOf (L2N.CX P w) P w K mg base N_is_from_to "is_from_to" (defScope s_is_from_to) f cdv A outer s H E) (defBody s_is_from_to) (t_is_from_to K w sp_is_integer E) :=
  (pss_one (ps_ret (pe_and (dCall (E := E) cl_is_integer hr (by decide) (by rfl) (L2N.passes_call (L2N.takes_of rfl rfl rfl rfl) fun _ _ _ _ h => h) (pa_cons (pv 0) pa_nil)) (pe_one (pe_chain oLe oLe (pv 1) (pv 0) (pv 2))))))
theorem der_check_number {P : Program} {w : World} {K : PySem.W.Frag} {mg : Str → Option Value} {base : Heap} {f : Addr} {C_BadNumber : Addr} {sp_is_from_to : Sp} (cl_is_from_to : Cl P w K mg base 2 "is_from_to" sp_is_from_to) (g_BadNumber : mg "BadNumber" = some (.ref C_BadNumber)) (x_BadNumber : ExcF K C_BadNumber) (cdv : Value) (A : Around) (outer : List Env) (s : Shared) (H : Hp) (E : XK) (hr : Room 2 (A.deeper (envOfC "check_number" (defScope s_check_number) s.heap.objs.size f cdv))) :
    PSs (cxOf (L2N.CX P w) P w K mg base N_check_number "check_number" (defScope s_check_number) f cdv A outer s H E) (defBody s_check_number) (t_check_number K w C_BadNumber sp_is_from_to E) :=
  (pss_one (ps_if (pt_not (pt_val (dCall (E := E) cl_is_from_to hr (by decide) (by rfl) (L2N.passes_call (L2N.takes_of rfl rfl rfl rfl) fun _ _ _ _ h => h) (pa_cons (pv 0) (pa_cons (pv 1) (pa_cons (pv 2) pa_nil)))))) (pss_one (L2N.ps_raise (W := fun cls d _ H' => E cls d H') rfl (L2N.takes_of rfl rfl rfl rfl) (L2N.pmk_own PySem.F.excBase_ValueError x_BadNumber.1 g_BadNumber x_BadNumber.2.1 (raises_own x_BadNumber.2.2.1 x_BadNumber.2.2.2) (by rfl)))) pss_nil))
theorem der_are_pairs {P : Program} {w : World} {K : PySem.W.Frag} {mg : Str → Option Value} {base : Heap} {f : Addr} {sp_is_from_to : Sp} (cl_is_from_to : Cl P w K mg base 2 "is_from_to" sp_is_from_to) (n_all : mg "all" = none) (n_isinstance : mg "isinstance" = none) (n_len : mg "len" = none) (n_tuple : mg "tuple" = none) (cdv : Value) (A : Around) (outer : List Env) (s : Shared) (H : Hp) (E : XK) (hr : Room 2 (A.deeper (envOfC "are_pairs" (defScope s_are_pairs) s.heap.objs.size f cdv))) :
    PSs (cxOf (L2N.CX P w) P w K mg base N_are_pairs "are_pairs" (defScope s_are_pairs) f cdv A outer s H E) (defBody s_are_pairs) (t_are_pairs K w sp_is_from_to E) :=
  (pss_cons (ps_if (PW.pt (pw_or (pt_not (pt_val (pe_callB call_isi (by rfl) n_isinstance (by decide +kernel) (pa_cons (pv 0) (pa_cons (pe_bltn (v := .ty "tuple") (by rfl) n_tuple (by decide +kernel) rfl) pa_nil))))) (pw_or1 (pt_not (pt_val (pe_callB (cr_all rfl) (by rfl) n_all (by decide +kernel) (pa_cons (pe_lc (own := [("pair", 2)]) rfl sc_are_pairs.nd (pi_seq (pv 0)) (blkOk_by (own := [("pair", 2)]) (N := N_are_pairs) (sc := defScope s_are_pairs) (by decide +kernel)) (fun _ _ _ _ _ => (pg_name (i := 2) sc_are_pairs.nd rfl (by first | exact Or.inl rfl | exact Or.inr rfl))) (fun _ _ _ _ _ => pts_nil) (fun _ _ _ _ _ => (pe_and (pe_callB call_isi (by rfl) n_isinstance (by decide +kernel) (pa_cons (pv 2) (pa_cons (pe_bltn (v := .ty "tuple") (by rfl) n_tuple (by decide +kernel) rfl) pa_nil))) (pe_one (pe_cmpR (oEq hr.units) (pe_callB cLen (by rfl) n_len (by decide +kernel) (pa_cons (pv 2) pa_nil)) pe_int (nomark _)))))) pa_nil))))))) (pss_one (ps_ret pe_bl)) pss_nil)
    (pss_one (ps_ret (pe_callB (cr_all rfl) (by rfl) n_all (by decide +kernel) (pa_cons (pe_lc (own := [("i", 3), ("j", 4)]) rfl sc_are_pairs.nd (pi_seq (pv 0)) (blkOk_by (own := [("i", 3), ("j", 4)]) (N := N_are_pairs) (sc := defScope s_are_pairs) (by decide +kernel)) (fun _ _ _ _ _ => (pg_tup rfl (pgs_cons (pg_name (i := 3) sc_are_pairs.nd rfl (by first | exact Or.inl rfl | exact Or.inr rfl)) (pgs_cons (pg_name (i := 4) sc_are_pairs.nd rfl (by first | exact Or.inl rfl | exact Or.inr rfl)) pgs_nil)))) (fun _ _ _ _ _ => pts_nil) (fun _ _ _ _ _ => (pe_and (dCall (E := E0) cl_is_from_to hr (by decide) (by rfl) passN (pa_cons (pv 3) (pa_cons pe_int (pa_cons (pe_op oSub (pv 1) pe_int) pa_nil)))) (pe_and (dCall (E := E0) cl_is_from_to hr (by decide) (by rfl) passN (pa_cons (pv 4) (pa_cons pe_int (pa_cons (pe_op oSub (pv 1) pe_int) pa_nil)))) (pe_one (pe_cmpR oLt (pv 3) (pv 4) (nomark _))))))) pa_nil)))))
theorem der_check_calls {P : Program} {w : World} {K : PySem.W.Frag} {mg : Str → Option Value} {base : Heap} {f : Addr} {C_BadCalls : Addr} {sp_are_pairs : Sp} {sp_check_number : Sp} (cl_are_pairs : Cl P w K mg base 3 "are_pairs" sp_are_pairs) (cl_check_number : Cl P w K mg base 3 "check_number" sp_check_number) (c_MOST_CALLS : ∃ t, mg "MOST_CALLS" = some (.int 40 t)) (c_MOST_PEOPLE : ∃ t, mg "MOST_PEOPLE" = some (.int 6 t)) (g_BadCalls : mg "BadCalls" = some (.ref C_BadCalls)) (x_BadCalls : ExcF K C_BadCalls) (n_len : mg "len" = none) (cdv : Value) (A : Around) (outer : List Env) (s : Shared) (H : Hp) (E : XK) (hr : Room 3 (A.deeper (envOfC "check_calls" (defScope s_check_calls) s.heap.objs.size f cdv))) :
    PSs (cxOf (L2N.CX P w) P w K mg base N_check_calls "check_calls" (defScope s_check_calls) f cdv A outer s H E) (defBody s_check_calls) (t_check_calls K w C_BadCalls sp_are_pairs sp_check_number E) :=
  (pss_cons (ps_expr (dCall (E := E) cl_check_number hr (by decide) (by rfl) (L2N.passes_call (L2N.takes_of rfl rfl rfl rfl) fun _ _ _ _ h => h) (pa_cons (pv 0) (pa_cons pe_int (pa_cons (dGlobI (by rfl) c_MOST_PEOPLE) pa_nil)))))
    (pss_one (ps_if (PW.pt (pw_or (pt_not (pt_val (dCall (E := E) cl_are_pairs hr (by decide) (by rfl) (L2N.passes_call (L2N.takes_of rfl rfl rfl rfl) fun _ _ _ _ h => h) (pa_cons (pv 1) (pa_cons (pv 0) pa_nil))))) (pw_or1 (pt_cmpR oGt (pe_callB cLen (by rfl) n_len (by decide +kernel) (pa_cons (pv 1) pa_nil)) (dGlobI (by rfl) c_MOST_CALLS) (nomark _))))) (pss_one (L2N.ps_raise (W := fun cls d _ H' => E cls d H') rfl (L2N.takes_of rfl rfl rfl rfl) (L2N.pmk_own PySem.F.excBase_ValueError x_BadCalls.1 g_BadCalls x_BadCalls.2.1 (raises_own x_BadCalls.2.2.1 x_BadCalls.2.2.2) (by rfl)))) pss_nil)))
theorem der_led {P : Program} {w : World} {K : PySem.W.Frag} {mg : Str → Option Value} {base : Heap} {f : Addr} (n_list : mg "list" = none) (n_range : mg "range" = none) (n_set : mg "set" = none) (n_sorted : mg "sorted" = none) (n_tuple : mg "tuple" = none) (cdv : Value) (A : Around) (outer : List Env) (s : Shared) (H : Hp) (E : XK) (hr : Room 0 (A.deeper (envOfC "led" (defScope s_led) s.heap.objs.size f cdv))) :
    PSs (cxOf (L2N.CX P w) P w K mg base N_led "led" (defScope s_led) f cdv A outer s H E) (defBody s_led) (t_led K w E) :=
  (pss_cons (ps_setLc (i := 2) (own := [("person", 7)]) rfl sc_led.nd rfl rfl (sw_true rfl rfl rfl (by decide +kernel)) (pi_range1 (by rfl) n_range (pa_cons (pv 0) pa_nil)) (blkOk_by (own := [("person", 7)]) (N := N_led) (sc := defScope s_led) (by decide +kernel)) (fun _ _ _ _ _ => (pg_name (i := 7) sc_led.nd rfl (by first | exact Or.inl rfl | exact Or.inr rfl))) (fun _ _ _ _ _ => pts_nil) (fun _ _ _ _ _ => (pe_tup (pa_cons (pv 7) pa_nil))))
    (pss_cons (ps_set (i := 3) sc_led.nd rfl (by first | exact Or.inl rfl | exact Or.inr rfl) (pe_lst (pa_cons (pe_callTy cList (by rfl) n_list (by decide +kernel) (pa_cons (pv 2) pa_nil)) pa_nil)))
    (pss_cons (ps_for (passes_of rfl) rfl (pi_seq (pv 1)) (pg_tup rfl (pgs_cons (pg_name (i := 4) sc_led.nd rfl (by first | exact Or.inl rfl | exact Or.inr rfl)) (pgs_cons (pg_name (i := 5) sc_led.nd rfl (by first | exact Or.inl rfl | exact Or.inr rfl)) pgs_nil))) (pss_cons (ps_set (i := 6) sc_led.nd rfl (by first | exact Or.inl rfl | exact Or.inr rfl) (pe_tupleOf (by rfl) n_tuple (pe_callB (cr_sortedSet rfl) (by rfl) n_sorted (by decide +kernel) (pa_cons (pe_callTy (cr_setT rfl) (by rfl) n_set (by decide +kernel) (pa_cons (pe_op oAdd (pe_ix ix_seq (pv 2) (pv 4) (fun _ _ => rfl)) (pe_ix ix_seq (pv 2) (pv 5) (fun _ _ => rfl))) pa_nil)) pa_nil))))
    (pss_cons (ps_asg (pv 6) (pg_sub (pv 2) (pv 4) set_list))
    (pss_cons (ps_asg (pv 6) (pg_sub (pv 2) (pv 5) set_list))
    (pss_one (ps_expr (pe_bm PySem.F.plainAttrs_list PySem.F.slot_list_append PySem.F.type_list_append mt_append (pv 3) (pa_cons (pe_callTy cList (by rfl) n_list (by decide +kernel) (pa_cons (pv 2) pa_nil)) pa_nil))))))))
    (pss_one (ps_ret (pv 3))))))
theorem der_known_after {P : Program} {w : World} {K : PySem.W.Frag} {mg : Str → Option Value} {base : Heap} {f : Addr} {sp_check_calls : Sp} {sp_led : Sp} (cl_check_calls : Cl P w K mg base 4 "check_calls" sp_check_calls) (cl_led : Cl P w K mg base 1 "led" sp_led) (n_tuple : mg "tuple" = none) (cdv : Value) (A : Around) (outer : List Env) (s : Shared) (H : Hp) (E : XK) (hr : Room 4 (A.deeper (envOfC "known_after" (defScope s_known_after) s.heap.objs.size f cdv))) :
    PSs (cxOf (L2N.CX P w) P w K mg base N_known_after "known_after" (defScope s_known_after) f cdv A outer s H E) (defBody s_known_after) (t_known_after K w sp_check_calls sp_led E) :=
  (pss_cons (ps_expr (dCall (E := E) cl_check_calls hr (by decide) (by rfl) (L2N.passes_call (L2N.takes_of rfl rfl rfl rfl) fun _ _ _ _ h => h) (pa_cons (pv 0) (pa_cons (pv 1) pa_nil))))
    (pss_one (ps_ret (pe_tupleOf (by rfl) n_tuple (pe_ix ix_seq (dCall (E := E) cl_led hr (by decide) (by rfl) (L2N.passes_call (L2N.takes_of rfl rfl rfl rfl) fun _ _ _ _ h => h) (pa_cons (pv 0) (pa_cons (pv 1) pa_nil))) (pe_un uNeg pe_int) (fun _ _ => rfl))))))
theorem der_all_know {P : Program} {w : World} {K : PySem.W.Frag} {mg : Str → Option Value} {base : Heap} {f : Addr} {sp_check_calls : Sp} {sp_led : Sp} (cl_check_calls : Cl P w K mg base 4 "check_calls" sp_check_calls) (cl_led : Cl P w K mg base 1 "led" sp_led) (n_all : mg "all" = none) (n_len : mg "len" = none) (cdv : Value) (A : Around) (outer : List Env) (s : Shared) (H : Hp) (E : XK) (hr : Room 4 (A.deeper (envOfC "all_know" (defScope s_all_know) s.heap.objs.size f cdv))) :
    PSs (cxOf (L2N.CX P w) P w K mg base N_all_know "all_know" (defScope s_all_know) f cdv A outer s H E) (defBody s_all_know) (t_all_know K w sp_check_calls sp_led E) :=
  (pss_cons (ps_expr (dCall (E := E) cl_check_calls hr (by decide) (by rfl) (L2N.passes_call (L2N.takes_of rfl rfl rfl rfl) fun _ _ _ _ h => h) (pa_cons (pv 0) (pa_cons (pv 1) pa_nil))))
    (pss_one (ps_ret (pe_callB (cr_all rfl) (by rfl) n_all (by decide +kernel) (pa_cons (pe_lc (own := [("lot", 2)]) rfl sc_all_know.nd (pi_seq (pe_ix ix_seq (dCall (E := E) cl_led hr (by decide) (by rfl) (L2N.passes_call (L2N.takes_of rfl rfl rfl rfl) fun _ _ _ _ h => h) (pa_cons (pv 0) (pa_cons (pv 1) pa_nil))) (pe_un uNeg pe_int) (fun _ _ => rfl))) (blkOk_by (own := [("lot", 2)]) (N := N_all_know) (sc := defScope s_all_know) (by decide +kernel)) (fun _ _ _ _ _ => (pg_name (i := 2) sc_all_know.nd rfl (by first | exact Or.inl rfl | exact Or.inr rfl))) (fun _ _ _ _ _ => pts_nil) (fun _ _ _ _ _ => (pe_cmpR (oEq hr.units) (pe_callB cLen (by rfl) n_len (by decide +kernel) (pa_cons (pv 2) pa_nil)) (pv 0) (nomark _)))) pa_nil)))))
theorem der_first_needless {P : Program} {w : World} {K : PySem.W.Frag} {mg : Str → Option Value} {base : Heap} {f : Addr} {sp_check_calls : Sp} {sp_led : Sp} (cl_check_calls : Cl P w K mg base 4 "check_calls" sp_check_calls) (cl_led : Cl P w K mg base 1 "led" sp_led) (n_len : mg "len" = none) (n_range : mg "range" = none) (cdv : Value) (A : Around) (outer : List Env) (s : Shared) (H : Hp) (E : XK) (hr : Room 4 (A.deeper (envOfC "first_needless" (defScope s_first_needless) s.heap.objs.size f cdv))) :
    PSs (cxOf (L2N.CX P w) P w K mg base N_first_needless "first_needless" (defScope s_first_needless) f cdv A outer s H E) (defBody s_first_needless) (t_first_needless K w sp_check_calls sp_led E) :=
  (pss_cons (ps_expr (dCall (E := E) cl_check_calls hr (by decide) (by rfl) (L2N.passes_call (L2N.takes_of rfl rfl rfl rfl) fun _ _ _ _ h => h) (pa_cons (pv 0) (pa_cons (pv 1) pa_nil))))
    (pss_cons (ps_set (i := 2) sc_first_needless.nd rfl (by first | exact Or.inl rfl | exact Or.inr rfl) (dCall (E := E) cl_led hr (by decide) (by rfl) (L2N.passes_call (L2N.takes_of rfl rfl rfl rfl) fun _ _ _ _ h => h) (pa_cons (pv 0) (pa_cons (pv 1) pa_nil))))
    (pss_cons (ps_for (passes_of rfl) rfl (pi_range1 (by rfl) n_range (pa_cons (pe_callB cLen (by rfl) n_len (by decide +kernel) (pa_cons (pv 1) pa_nil)) pa_nil)) (pg_name (i := 3) sc_first_needless.nd rfl (by first | exact Or.inl rfl | exact Or.inr rfl)) (pss_one (ps_if (pt_cmpR (oEq hr.units) (pe_ix ix_seq (pv 2) (pv 3) (fun _ _ => rfl)) (pe_ix ix_seq (pv 2) (pe_op oAdd (pv 3) pe_int) (fun _ _ => rfl)) (nomark _)) (pss_one (ps_ret (pv 3))) pss_nil)))
    (pss_one (ps_ret pe_non)))))
theorem der_call_graph {P : Program} {w : World} {K : PySem.W.Frag} {mg : Str → Option Value} {base : Heap} {f : Addr} {sp_check_calls : Sp} (cl_check_calls : Cl P w K mg base 4 "check_calls" sp_check_calls) (n_len : mg "len" = none) (n_range : mg "range" = none) (n_tuple : mg "tuple" = none) (cdv : Value) (A : Around) (outer : List Env) (s : Shared) (H : Hp) (E : XK) (hr : Room 4 (A.deeper (envOfC "call_graph" (defScope s_call_graph) s.heap.objs.size f cdv))) :
    PSs (cxOf (L2N.CX P w) P w K mg base N_call_graph "call_graph" (defScope s_call_graph) f cdv A outer s H E) (defBody s_call_graph) (t_call_graph K w sp_check_calls E) :=
  (pss_cons (ps_expr (dCall (E := E) cl_check_calls hr (by decide) (by rfl) (L2N.passes_call (L2N.takes_of rfl rfl rfl rfl) fun _ _ _ _ h => h) (pa_cons (pv 0) (pa_cons (pv 1) pa_nil))))
    (pss_one (ps_ret (pe_tupleOf (by rfl) n_tuple (pe_lc (own := [("person", 2)]) rfl sc_call_graph.nd (pi_range1 (by rfl) n_range (pa_cons (pv 0) pa_nil)) (blkOk_by (own := [("person", 2)]) (N := N_call_graph) (sc := defScope s_call_graph) (by decide +kernel)) (fun _ _ _ _ _ => (pg_name (i := 2) sc_call_graph.nd rfl (by first | exact Or.inl rfl | exact Or.inr rfl))) (fun _ _ _ _ _ => pts_nil) (fun _ _ _ _ _ => (pe_callB cLen (by rfl) n_len (by decide +kernel) (pa_cons (pe_lc (own := [("call", 3)]) rfl sc_call_graph.nd (pi_seq (pv 1)) (blkOk_by (own := [("call", 3)]) (N := N_call_graph) (by kernel_rfl)) (fun _ _ _ _ _ => (pg_name (i := 3) sc_call_graph.nd rfl (by first | exact Or.inl rfl | exact Or.inr rfl))) (fun _ _ _ _ _ => (pts_one (pt_cmpR (oIn (hu1 hr)) (pv 2) (pv 3) (by rfl)))) (fun _ _ _ _ _ => (pv 3))) pa_nil))))))))
theorem der__law_pool {P : Program} {w : World} {K : PySem.W.Frag} {mg : Str → Option Value} {base : Heap} {f : Addr} (n_int : mg "int" = none) (n_len : mg "len" = none) (n_range : mg "range" = none) (cdv : Value) (A : Around) (outer : List Env) (s : Shared) (H : Hp) (E : XK) (hr : Room 0 (A.deeper (envOfC "_law_pool" (defScope s__law_pool) s.heap.objs.size f cdv))) :
    PSs (cxOf (L2N.CX P w) P w K mg base N__law_pool "_law_pool" (defScope s__law_pool) f cdv A outer s H E) (defBody s__law_pool) (t__law_pool K w E) :=
  (pss_cons (ps_set (i := 1) sc__law_pool.nd rfl (by first | exact Or.inl rfl | exact Or.inr rfl) pe_int)
    (pss_cons (ps_set (i := 2) sc__law_pool.nd rfl (by first | exact Or.inl rfl | exact Or.inr rfl) (pe_lst pa_nil))
    (pss_cons (ps_for (passes_of rfl) rfl (pi_range1 (by rfl) n_range (pa_cons (pe_callB cLen (by rfl) n_len (by decide +kernel) (pa_cons (pv 0) pa_nil)) pa_nil)) (pg_name (i := 3) sc__law_pool.nd rfl (by first | exact Or.inl rfl | exact Or.inr rfl)) (pss_cons (ps_set (i := 1) sc__law_pool.nd rfl (by first | exact Or.inl rfl | exact Or.inr rfl) (pe_op oMod (pe_callTy cInt (by rfl) n_int (by decide +kernel) (pa_cons (pe_op oAdd (pe_op oAdd (pe_op oAdd (pe_op oMul (pv 1) (pv 1)) (pe_ix ix_seq (pv 0) (pv 3) (fun _ _ => rfl))) (pv 3)) pe_int) pa_nil)) pe_int))
    (pss_cons (ps_set (i := 1) sc__law_pool.nd rfl (by first | exact Or.inl rfl | exact Or.inr rfl) (pe_op oMod (pe_callTy cInt (by rfl) n_int (by decide +kernel) (pa_cons (pe_op oAdd (pe_op oMul (pv 1) (pv 1)) pe_int) pa_nil)) pe_int))
    (pss_one (ps_if (pt_cmpR oGe (pe_ix ix_seq (pv 0) (pv 3) (fun _ _ => rfl)) pe_int (nomark _)) (pss_one (ps_expr (pe_bm PySem.F.plainAttrs_list PySem.F.slot_list_append PySem.F.type_list_append mt_append (pv 2) (pa_cons (pe_ix ix_seq (pv 0) (pv 3) (fun _ _ => rfl)) pa_nil)))) pss_nil)))))
    (pss_one (ps_ret (pe_op oAdd (pe_lst (pa_cons (pv 1) (pa_cons pe_int pa_nil))) (pv 2)))))))
theorem der__law_take {P : Program} {w : World} {K : PySem.W.Frag} {mg : Str → Option Value} {base : Heap} {f : Addr} (n_int : mg "int" = none) (n_len : mg "len" = none) (cdv : Value) (A : Around) (outer : List Env) (s : Shared) (H : Hp) (E : XK) (hr : Room 0 (A.deeper (envOfC "_law_take" (defScope s__law_take) s.heap.objs.size f cdv))) :
    PSs (cxOf (L2N.CX P w) P w K mg base N__law_take "_law_take" (defScope s__law_take) f cdv A outer s H E) (defBody s__law_take) (t__law_take K w E) :=
  (pss_cons (ps_if (PW.pt (pw_and (pt_cmpR (oEq hr.units) (pe_ix ix_seq (pv 0) pe_int (fun _ _ => rfl)) pe_int (nomark _)) (pw_and1 (pt_cmpR oGt (pe_callB cLen (by rfl) n_len (by decide +kernel) (pa_cons (pv 0) pa_nil)) pe_int (nomark _))))) (pss_one (ps_asg (pe_bm PySem.F.plainAttrs_list PySem.F.slot_list_pop PySem.F.type_list_pop mt_popAt (pv 0) (pa_cons pe_int pa_nil)) (pg_sub (pv 0) pe_int set_list))) pss_nil)
    (pss_cons (ps_if (pt_cmpR oGt (pe_ix ix_seq (pv 0) pe_int (fun _ _ => rfl)) pe_int (nomark _)) (pss_cons (ps_set (i := 2) sc__law_take.nd rfl (by first | exact Or.inl rfl | exact Or.inr rfl) (pe_op oMod (pe_callTy cInt (by rfl) n_int (by decide +kernel) (pa_cons (pe_ix ix_seq (pv 0) pe_int (fun _ _ => rfl)) pa_nil)) (pv 1)))
    (pss_cons (ps_asg (pe_op oDiv (pe_ix ix_seq (pv 0) pe_int (fun _ _ => rfl)) (pv 1)) (pg_sub (pv 0) pe_int set_list))
    (pss_one (ps_ret (pv 2))))) pss_nil)
    (pss_cons (ps_set (i := 3) sc__law_take.nd rfl (by first | exact Or.inl rfl | exact Or.inr rfl) (pe_op oMod (pe_callTy cInt (by rfl) n_int (by decide +kernel) (pa_cons (pe_op oAdd (pe_op oMul (pe_ix ix_seq (pv 0) pe_int (fun _ _ => rfl)) (pe_ix ix_seq (pv 0) pe_int (fun _ _ => rfl))) pe_int) pa_nil)) pe_int))
    (pss_cons (ps_asg (pe_op oMod (pe_callTy cInt (by rfl) n_int (by decide +kernel) (pa_cons (pe_op oAdd (pe_op oMul (pv 3) (pv 3)) pe_int) pa_nil)) pe_int) (pg_sub (pv 0) pe_int set_list))
    (pss_one (ps_ret (pe_op oMod (pe_callTy cInt (by rfl) n_int (by decide +kernel) (pa_cons (pe_op oDiv (pe_ix ix_seq (pv 0) pe_int (fun _ _ => rfl)) pe_int) pa_nil)) (pv 1))))))))
theorem der__law_same {P : Program} {w : World} {K : PySem.W.Frag} {mg : Str → Option Value} {base : Heap} {f : Addr} {sp__law_same : Sp} {kk : Nat} (cl__law_same : Cl P w K mg base kk "_law_same" sp__law_same) (n_bool : mg "bool" = none) (n_int : mg "int" = none) (n_isinstance : mg "isinstance" = none) (n_len : mg "len" = none) (n_range : mg "range" = none) (n_tuple : mg "tuple" = none) (cdv : Value) (A : Around) (outer : List Env) (s : Shared) (H : Hp) (E : XK) (hr : Room kk (A.deeper (envOfC "_law_same" (defScope s__law_same) s.heap.objs.size f cdv))) :
    PSs (cxOf (L2N.CX P w) P w K mg base N__law_same "_law_same" (defScope s__law_same) f cdv A outer s H E) (defBody s__law_same) (t__law_same K w sp__law_same E) :=
  (pss_cons (ps_if (pt_cmpR oIsN (pv 1) pe_non (nomark _)) (pss_one (ps_ret (pe_cmpR oIsN (pv 0) pe_non (nomark _)))) pss_nil)
    (pss_cons (ps_if (pt_val (pe_callB call_isi (by rfl) n_isinstance (by decide +kernel) (pa_cons (pv 1) (pa_cons (pe_bltn (v := .ty "bool") (by rfl) n_bool (by decide +kernel) rfl) pa_nil)))) (pss_one (ps_ret (pe_and (pe_callB call_isi (by rfl) n_isinstance (by decide +kernel) (pa_cons (pv 0) (pa_cons (pe_bltn (v := .ty "bool") (by rfl) n_bool (by decide +kernel) rfl) pa_nil))) (pe_one (pe_cmpR (oEq hr.units) (pv 0) (pv 1) (nomark _)))))) pss_nil)
    (pss_cons (ps_if (pt_val (pe_callB call_isi (by rfl) n_isinstance (by decide +kernel) (pa_cons (pv 1) (pa_cons (pe_bltn (v := .ty "int") (by rfl) n_int (by decide +kernel) rfl) pa_nil)))) (pss_one (ps_ret (pe_and (pe_callB call_isi (by rfl) n_isinstance (by decide +kernel) (pa_cons (pv 0) (pa_cons (pe_bltn (v := .ty "int") (by rfl) n_int (by decide +kernel) rfl) pa_nil))) (pe_and (pe_not (pe_callB call_isi (by rfl) n_isinstance (by decide +kernel) (pa_cons (pv 0) (pa_cons (pe_bltn (v := .ty "bool") (by rfl) n_bool (by decide +kernel) rfl) pa_nil)))) (pe_one (pe_cmpR (oEq hr.units) (pv 0) (pv 1) (nomark _))))))) pss_nil)
    (pss_cons (ps_if (PW.pt (pw_or (pt_not (pt_val (pe_callB call_isi (by rfl) n_isinstance (by decide +kernel) (pa_cons (pv 0) (pa_cons (pe_bltn (v := .ty "tuple") (by rfl) n_tuple (by decide +kernel) rfl) pa_nil))))) (pw_or1 (pt_cmpR (oNe hr.units) (pe_callB cLen (by rfl) n_len (by decide +kernel) (pa_cons (pv 0) pa_nil)) (pe_callB cLen (by rfl) n_len (by decide +kernel) (pa_cons (pv 1) pa_nil)) (nomark _))))) (pss_one (ps_ret pe_bl)) pss_nil)
    (pss_cons (ps_for (passes_of rfl) rfl (pi_range1 (by rfl) n_range (pa_cons (pe_callB cLen (by rfl) n_len (by decide +kernel) (pa_cons (pv 1) pa_nil)) pa_nil)) (pg_name (i := 2) sc__law_same.nd rfl (by first | exact Or.inl rfl | exact Or.inr rfl)) (pss_one (ps_if (pt_not (pt_val (dCall (E := E) cl__law_same hr (Nat.le_refl _) (by rfl) (L2N.passes_call (L2N.takes_of rfl rfl rfl rfl) fun _ _ _ _ h => h) (pa_cons (pe_ix ix_seq (pv 0) (pv 2) (fun _ _ => rfl)) (pa_cons (pe_ix ix_seq (pv 1) (pv 2) (fun _ _ => rfl)) pa_nil))))) (pss_one (ps_ret pe_bl)) pss_nil)))
    (pss_one (ps_ret pe_bl)))))))
theorem der__law_drawn_calls {P : Program} {w : World} {K : PySem.W.Frag} {mg : Str → Option Value} {base : Heap} {f : Addr} {sp__law_take : Sp} (cl__law_take : Cl P w K mg base 1 "_law_take" sp__law_take) (n_int : mg "int" = none) (n_len : mg "len" = none) (n_list : mg "list" = none) (n_max : mg "max" = none) (n_min : mg "min" = none) (n_range : mg "range" = none) (n_tuple : mg "tuple" = none) (cdv : Value) (A : Around) (outer : List Env) (s : Shared) (H : Hp) (E : XK) (hr : Room 1 (A.deeper (envOfC "_law_drawn_calls" (defScope s__law_drawn_calls) s.heap.objs.size f cdv))) :
    PSs (cxOf (L2N.CX P w) P w K mg base N__law_drawn_calls "_law_drawn_calls" (defScope s__law_drawn_calls) f cdv A outer s H E) (defBody s__law_drawn_calls) (t__law_drawn_calls K w sp__law_take E) :=
  (pss_cons (ps_set (i := 2) sc__law_drawn_calls.nd rfl (by first | exact Or.inl rfl | exact Or.inr rfl) (pe_listRg rfl (by rfl) n_list (prg_1 (by rfl) n_range (pv 1))))
    (pss_cons (ps_set (i := 3) sc__law_drawn_calls.nd rfl (by first | exact Or.inl rfl | exact Or.inr rfl) (pe_lst pa_nil))
    (pss_cons (ps_for (passes_of rfl) rfl (pi_range1 (by rfl) n_range (pa_cons (pv 1) pa_nil)) (pg_name (i := 4) sc__law_drawn_calls.nd rfl (by first | exact Or.inl rfl | exact Or.inr rfl)) (pss_one (ps_expr (pe_bm PySem.F.plainAttrs_list PySem.F.slot_list_append PySem.F.type_list_append mt_append (pv 3) (pa_cons (pe_bm PySem.F.plainAttrs_list PySem.F.slot_list_pop PySem.F.type_list_pop mt_popAt (pv 2) (pa_cons (dCall (E := E) cl__law_take hr (by decide) (by rfl) (L2N.passes_call (L2N.takes_of rfl rfl rfl rfl) fun _ _ _ _ h => h) (pa_cons (pv 0) (pa_cons (pe_callB cLen (by rfl) n_len (by decide +kernel) (pa_cons (pv 2) pa_nil)) pa_nil))) pa_nil)) pa_nil)))))
    (pss_cons (ps_set (i := 5) sc__law_drawn_calls.nd rfl (by first | exact Or.inl rfl | exact Or.inr rfl) (pe_op oAdd pe_int (dCall (E := E) cl__law_take hr (by decide) (by rfl) (L2N.passes_call (L2N.takes_of rfl rfl rfl rfl) fun _ _ _ _ h => h) (pa_cons (pv 0) (pa_cons (pe_op oSub (pv 1) pe_int) pa_nil)))))
    (pss_cons (ps_set (i := 6) sc__law_drawn_calls.nd rfl (by first | exact Or.inl rfl | exact Or.inr rfl) (pe_op oSub pe_int (pe_op oSub (pe_op oMul pe_int (pv 1)) pe_int)))
    (pss_cons (ps_set (i := 7) sc__law_drawn_calls.nd rfl (by first | exact Or.inl rfl | exact Or.inr rfl) (dCall (E := E) cl__law_take hr (by decide) (by rfl) (L2N.passes_call (L2N.takes_of rfl rfl rfl rfl) fun _ _ _ _ h => h) (pa_cons (pv 0) (pa_cons pe_int pa_nil))))
    (pss_cons (ps_set (i := 8) sc__law_drawn_calls.nd rfl (by first | exact Or.inl rfl | exact Or.inr rfl) (dCall (E := E) cl__law_take hr (by decide) (by rfl) (L2N.passes_call (L2N.takes_of rfl rfl rfl rfl) fun _ _ _ _ h => h) (pa_cons (pv 0) (pa_cons pe_int pa_nil))))
    (pss_cons (ps_if (pt_cmpR (oEq hr.units) (pv 7) pe_int (nomark _)) (pss_one (ps_set (i := 8) sc__law_drawn_calls.nd rfl (by first | exact Or.inl rfl | exact Or.inr rfl) (dCall (E := E) cl__law_take hr (by decide) (by rfl) (L2N.passes_call (L2N.takes_of rfl rfl rfl rfl) fun _ _ _ _ h => h) (pa_cons (pv 0) (pa_cons pe_int pa_nil))))) (pss_one (ps_if (pt_cmpR (oEq hr.units) (pv 7) pe_int (nomark _)) (pss_one (ps_set (i := 8) sc__law_drawn_calls.nd rfl (by first | exact Or.inl rfl | exact Or.inr rfl) (dCall (E := E) cl__law_take hr (by decide) (by rfl) (L2N.passes_call (L2N.takes_of rfl rfl rfl rfl) fun _ _ _ _ h => h) (pa_cons (pv 0) (pa_cons (pe_op oAdd (pv 6) pe_int) pa_nil))))) pss_nil)))
    (pss_cons (ps_set (i := 9) sc__law_drawn_calls.nd rfl (by first | exact Or.inl rfl | exact Or.inr rfl) (pe_lst pa_nil))
    (pss_cons (ps_for (passes_of rfl) rfl (pi_range1 (by rfl) n_range (pa_cons (pv 8) pa_nil)) (pg_name (i := 4) sc__law_drawn_calls.nd rfl (by first | exact Or.inl rfl | exact Or.inr rfl)) (pss_one (ps_if (PW.pt (pw_and (pt_cmpR oGt (pv 4) pe_int (nomark _)) (pw_and1 (pt_cmpR (oEq hr.units) (dCall (E := E) cl__law_take hr (by decide) (by rfl) (L2N.passes_call (L2N.takes_of rfl rfl rfl rfl) fun _ _ _ _ h => h) (pa_cons (pv 0) (pa_cons pe_int pa_nil))) pe_int (nomark _))))) (pss_one (ps_expr (pe_bm PySem.F.plainAttrs_list PySem.F.slot_list_append PySem.F.type_list_append mt_append (pv 9) (pa_cons (pe_ix ix_seq (pv 9) (pe_op oSub (pv 4) pe_int) (fun _ _ => rfl)) pa_nil)))) (pss_cons (ps_set (i := 10) sc__law_drawn_calls.nd rfl (by first | exact Or.inl rfl | exact Or.inr rfl) (dCall (E := E) cl__law_take hr (by decide) (by rfl) (L2N.passes_call (L2N.takes_of rfl rfl rfl rfl) fun _ _ _ _ h => h) (pa_cons (pv 0) (pa_cons (pv 5) pa_nil))))
    (pss_cons (ps_set (i := 11) sc__law_drawn_calls.nd rfl (by first | exact Or.inl rfl | exact Or.inr rfl) (pe_ix ix_seq (pv 3) (pv 10) (fun _ _ => rfl)))
    (pss_cons (ps_set (i := 12) sc__law_drawn_calls.nd rfl (by first | exact Or.inl rfl | exact Or.inr rfl) (pe_ix ix_seq (pv 3) (pe_op oMod (pe_callTy cInt (by rfl) n_int (by decide +kernel) (pa_cons (pe_op oAdd (pe_op oAdd (pv 10) pe_int) (dCall (E := E) cl__law_take hr (by decide) (by rfl) (L2N.passes_call (L2N.takes_of rfl rfl rfl rfl) fun _ _ _ _ h => h) (pa_cons (pv 0) (pa_cons (pe_op oSub (pv 5) pe_int) pa_nil)))) pa_nil)) (pv 5)) (fun _ _ => rfl)))
    (pss_one (ps_expr (pe_bm PySem.F.plainAttrs_list PySem.F.slot_list_append PySem.F.type_list_append mt_append (pv 9) (pa_cons (pe_tup (pa_cons (pe_callB (cMin2 rfl) (by rfl) n_min (by decide +kernel) (pa_cons (pv 11) (pa_cons (pv 12) pa_nil))) (pa_cons (pe_callB (cMax2 rfl) (by rfl) n_max (by decide +kernel) (pa_cons (pv 11) (pa_cons (pv 12) pa_nil))) pa_nil))) pa_nil))))))))))
    (pss_one (ps_ret (pe_tupleOf (by rfl) n_tuple (pv 9))))))))))))))
theorem der__law_closing {P : Program} {w : World} {K : PySem.W.Frag} {mg : Str → Option Value} {base : Heap} {f : Addr} (n_range : mg "range" = none) (n_tuple : mg "tuple" = none) (cdv : Value) (A : Around) (outer : List Env) (s : Shared) (H : Hp) (E : XK) (hr : Room 0 (A.deeper (envOfC "_law_closing" (defScope s__law_closing) s.heap.objs.size f cdv))) :
    PSs (cxOf (L2N.CX P w) P w K mg base N__law_closing "_law_closing" (defScope s__law_closing) f cdv A outer s H E) (defBody s__law_closing) (t__law_closing K w E) :=
  (pss_one (ps_ret (pe_tupleOf (by rfl) n_tuple (pe_op oAdd (pe_lc (own := [("k", 1)]) rfl sc__law_closing.nd (pi_range2 (by rfl) n_range (pa_cons pe_int (pa_cons (pv 0) pa_nil))) (blkOk_by (own := [("k", 1)]) (N := N__law_closing) (sc := defScope s__law_closing) (by decide +kernel)) (fun _ _ _ _ _ => (pg_name (i := 1) sc__law_closing.nd rfl (by first | exact Or.inl rfl | exact Or.inr rfl))) (fun _ _ _ _ _ => pts_nil) (fun _ _ _ _ _ => (pe_tup (pa_cons pe_int (pa_cons (pv 1) pa_nil))))) (pe_lc (own := [("k", 1)]) rfl sc__law_closing.nd (pi_range2 (by rfl) n_range (pa_cons pe_int (pa_cons (pe_op oSub (pv 0) pe_int) pa_nil))) (blkOk_by (own := [("k", 1)]) (N := N__law_closing) (sc := defScope s__law_closing) (by decide +kernel)) (fun _ _ _ _ _ => (pg_name (i := 1) sc__law_closing.nd rfl (by first | exact Or.inl rfl | exact Or.inr rfl))) (fun _ _ _ _ _ => pts_nil) (fun _ _ _ _ _ => (pe_tup (pa_cons pe_int (pa_cons (pv 1) pa_nil)))))))))
theorem der__law_walk {P : Program} {w : World} {K : PySem.W.Frag} {mg : Str → Option Value} {base : Heap} {f : Addr} (n_len : mg "len" = none) (n_range : mg "range" = none) (cdv : Value) (A : Around) (outer : List Env) (s : Shared) (H : Hp) (E : XK) (hr : Room 0 (A.deeper (envOfC "_law_walk" (defScope s__law_walk) s.heap.objs.size f cdv))) :
    PSs (cxOf (L2N.CX P w) P w K mg base N__law_walk "_law_walk" (defScope s__law_walk) f cdv A outer s H E) (defBody s__law_walk) (t__law_walk K w E) :=
  (pss_cons (ps_setLc (i := 2) (own := [("k", 8)]) rfl sc__law_walk.nd rfl rfl (sw_true rfl rfl rfl (by decide +kernel)) (pi_range1 (by rfl) n_range (pa_cons (pv 0) pa_nil)) (blkOk_by (own := [("k", 8)]) (N := N__law_walk) (sc := defScope s__law_walk) (by decide +kernel)) (fun _ _ _ _ _ => (pg_name (i := 8) sc__law_walk.nd rfl (by first | exact Or.inl rfl | exact Or.inr rfl))) (fun _ _ _ _ _ => pts_nil) (fun _ _ _ _ _ => (pe_op oShl pe_int (pv 8))))
    (pss_cons (ps_set (i := 3) sc__law_walk.nd rfl (by first | exact Or.inl rfl | exact Or.inr rfl) pe_non)
    (pss_cons (ps_for (passes_of rfl) rfl (pi_range1 (by rfl) n_range (pa_cons (pe_callB cLen (by rfl) n_len (by decide +kernel) (pa_cons (pv 1) pa_nil)) pa_nil)) (pg_name (i := 4) sc__law_walk.nd rfl (by first | exact Or.inl rfl | exact Or.inr rfl)) (pss_cons (ps_set (i := 5) sc__law_walk.nd rfl (by first | exact Or.inl rfl | exact Or.inr rfl) (pe_ix ix_seq (pe_ix ix_seq (pv 1) (pv 4) (fun _ _ => rfl)) pe_int (fun _ _ => rfl)))
    (pss_cons (ps_set (i := 6) sc__law_walk.nd rfl (by first | exact Or.inl rfl | exact Or.inr rfl) (pe_ix ix_seq (pe_ix ix_seq (pv 1) (pv 4) (fun _ _ => rfl)) pe_int (fun _ _ => rfl)))
    (pss_cons (ps_set (i := 7) sc__law_walk.nd rfl (by first | exact Or.inl rfl | exact Or.inr rfl) (pe_op oOr (pe_ix ix_seq (pv 2) (pv 5) (fun _ _ => rfl)) (pe_ix ix_seq (pv 2) (pv 6) (fun _ _ => rfl))))
    (pss_cons (ps_if (PW.pt (pw_and (pt_cmpR oIsN (pv 3) pe_non (nomark _)) (pw_and (pt_cmpR (oEq hr.units) (pe_ix ix_seq (pv 2) (pv 5) (fun _ _ => rfl)) (pv 7) (nomark _)) (pw_and1 (pt_cmpR (oEq hr.units) (pe_ix ix_seq (pv 2) (pv 6) (fun _ _ => rfl)) (pv 7) (nomark _)))))) (pss_one (ps_set (i := 3) sc__law_walk.nd rfl (by first | exact Or.inl rfl | exact Or.inr rfl) (pv 4))) pss_nil)
    (pss_cons (ps_asg (pv 7) (pg_sub (pv 2) (pv 5) set_list))
    (pss_one (ps_asg (pv 7) (pg_sub (pv 2) (pv 6) set_list)))))))))
    (pss_one (ps_ret (pe_lst (pa_cons (pv 2) (pa_cons (pv 3) pa_nil))))))))
theorem der__law_lot {P : Program} {w : World} {K : PySem.W.Frag} {mg : Str → Option Value} {base : Heap} {f : Addr} (n_range : mg "range" = none) (n_tuple : mg "tuple" = none) (cdv : Value) (A : Around) (outer : List Env) (s : Shared) (H : Hp) (E : XK) (hr : Room 0 (A.deeper (envOfC "_law_lot" (defScope s__law_lot) s.heap.objs.size f cdv))) :
    PSs (cxOf (L2N.CX P w) P w K mg base N__law_lot "_law_lot" (defScope s__law_lot) f cdv A outer s H E) (defBody s__law_lot) (t__law_lot K w E) :=
  (pss_one (ps_ret (pe_tupleOf (by rfl) n_tuple (pe_lc (own := [("k", 2)]) rfl sc__law_lot.nd (pi_range1 (by rfl) n_range (pa_cons (pv 1) pa_nil)) (blkOk_by (own := [("k", 2)]) (N := N__law_lot) (sc := defScope s__law_lot) (by decide +kernel)) (fun _ _ _ _ _ => (pg_name (i := 2) sc__law_lot.nd rfl (by first | exact Or.inl rfl | exact Or.inr rfl))) (fun _ _ _ _ _ => (pts_one (pt_cmpR (oEq hr.units) (pe_op oAnd (pe_op oShr (pv 0) (pv 2)) pe_int) pe_int (nomark _)))) (fun _ _ _ _ _ => (pv 2))))))
theorem der__law_row_fits {P : Program} {w : World} {K : PySem.W.Frag} {mg : Str → Option Value} {base : Heap} {f : Addr} {sp__law_lot : Sp} {sp__law_same : Sp} {sp__law_walk : Sp} {sp_all_know : Sp} {sp_call_graph : Sp} {sp_first_needless : Sp} {sp_known_after : Sp} (cl__law_lot : Cl P w K mg base 1 "_law_lot" sp__law_lot) (cl__law_same : Cl P w K mg base 9 "_law_same" sp__law_same) (cl__law_walk : Cl P w K mg base 1 "_law_walk" sp__law_walk) (cl_all_know : Cl P w K mg base 5 "all_know" sp_all_know) (cl_call_graph : Cl P w K mg base 5 "call_graph" sp_call_graph) (cl_first_needless : Cl P w K mg base 5 "first_needless" sp_first_needless) (cl_known_after : Cl P w K mg base 5 "known_after" sp_known_after) (n_len : mg "len" = none) (n_min : mg "min" = none) (n_range : mg "range" = none) (n_tuple : mg "tuple" = none) (cdv : Value) (A : Around) (outer : List Env) (s : Shared) (H : Hp) (E : XK) (hr : Room 9 (A.deeper (envOfC "_law_row_fits" (defScope s__law_row_fits) s.heap.objs.size f cdv))) :
    PSs (cxOf (L2N.CX P w) P w K mg base N__law_row_fits "_law_row_fits" (defScope s__law_row_fits) f cdv A outer s H E) (defBody s__law_row_fits) (t__law_row_fits K w sp__law_lot sp__law_same sp__law_walk sp_all_know sp_call_graph sp_first_needless sp_known_after E) :=
  (pss_cons (ps_set (i := 3) sc__law_row_fits.nd rfl (by first | exact Or.inl rfl | exact Or.inr rfl) (dCall (E := E) cl__law_walk hr (by decide) (by rfl) (L2N.passes_call (L2N.takes_of rfl rfl rfl rfl) fun _ _ _ _ h => h) (pa_cons (pv 0) (pa_cons (pv 1) pa_nil))))
    (pss_cons (ps_if (pt_cmpR (oNe hr.units) (pe_cmpR (oEq hr.units) (pe_callB (cr_min rfl) (by rfl) n_min (by decide +kernel) (pa_cons (pe_ix ix_seq (pv 3) pe_int (fun _ _ => rfl)) pa_nil)) (pe_op oSub (pe_op oShl pe_int (pv 0)) pe_int) (nomark _)) (pv 2) (nomark _)) (pss_one (ps_ret pe_bl)) pss_nil)
    (pss_cons (ps_if (pt_not (pt_val (dCall (E := E) cl__law_same hr (by decide) (by rfl) (L2N.passes_call (L2N.takes_of rfl rfl rfl rfl) fun _ _ _ _ h => h) (pa_cons (dCall (E := E) cl_known_after hr (by decide) (by rfl) (L2N.passes_call (L2N.takes_of rfl rfl rfl rfl) fun _ _ _ _ h => h) (pa_cons (pv 0) (pa_cons (pv 1) pa_nil))) (pa_cons (pe_tupleOf (by rfl) n_tuple (pe_lc (own := [("mask", 5)]) rfl sc__law_row_fits.nd (pi_seq (pe_ix ix_seq (pv 3) pe_int (fun _ _ => rfl))) (blkOk_by (own := [("mask", 5)]) (N := N__law_row_fits) (sc := defScope s__law_row_fits) (by decide +kernel)) (fun _ _ _ _ _ => (pg_name (i := 5) sc__law_row_fits.nd rfl (by first | exact Or.inl rfl | exact Or.inr rfl))) (fun _ _ _ _ _ => pts_nil) (fun _ _ _ _ _ => (dCall (E := E0) cl__law_lot hr (by decide) (by rfl) passN (pa_cons (pv 5) (pa_cons (pv 0) pa_nil)))))) pa_nil))))) (pss_one (ps_ret pe_bl)) pss_nil)
    (pss_cons (ps_if (PW.pt (pw_or (pt_not (pt_val (dCall (E := E) cl__law_same hr (by decide) (by rfl) (L2N.passes_call (L2N.takes_of rfl rfl rfl rfl) fun _ _ _ _ h => h) (pa_cons (dCall (E := E) cl_all_know hr (by decide) (by rfl) (L2N.passes_call (L2N.takes_of rfl rfl rfl rfl) fun _ _ _ _ h => h) (pa_cons (pv 0) (pa_cons (pv 1) pa_nil))) (pa_cons (pv 2) pa_nil))))) (pw_or1 (pt_not (pt_val (dCall (E := E) cl__law_same hr (by decide) (by rfl) (L2N.passes_call (L2N.takes_of rfl rfl rfl rfl) fun _ _ _ _ h => h) (pa_cons (dCall (E := E) cl_first_needless hr (by decide) (by rfl) (L2N.passes_call (L2N.takes_of rfl rfl rfl rfl) fun _ _ _ _ h => h) (pa_cons (pv 0) (pa_cons (pv 1) pa_nil))) (pa_cons (pe_ix ix_seq (pv 3) pe_int (fun _ _ => rfl)) pa_nil)))))))) (pss_one (ps_ret pe_bl)) pss_nil)
    (pss_cons (ps_setLc (i := 4) (own := [("k", 6)]) rfl sc__law_row_fits.nd rfl rfl (sw_true rfl rfl rfl (by decide +kernel)) (pi_range1 (by rfl) n_range (pa_cons (pv 0) pa_nil)) (blkOk_by (own := [("k", 6)]) (N := N__law_row_fits) (sc := defScope s__law_row_fits) (by decide +kernel)) (fun _ _ _ _ _ => (pg_name (i := 6) sc__law_row_fits.nd rfl (by first | exact Or.inl rfl | exact Or.inr rfl))) (fun _ _ _ _ _ => pts_nil) (fun _ _ _ _ _ => (pe_callB cLen (by rfl) n_len (by decide +kernel) (pa_cons (pe_lc (own := [("pair", 7)]) rfl sc__law_row_fits.nd (pi_seq (pv 1)) (blkOk_by (own := [("pair", 7)]) (N := N__law_row_fits) (by kernel_rfl)) (fun _ _ _ _ _ => (pg_name (i := 7) sc__law_row_fits.nd rfl (by first | exact Or.inl rfl | exact Or.inr rfl))) (fun _ _ _ _ _ => (pts_one (pt_cmpR (oIn (hu1 hr)) (pv 6) (pv 7) (by rfl)))) (fun _ _ _ _ _ => (pv 7))) pa_nil))))
    (pss_one (ps_ret (dCall (E := E) cl__law_same hr (by decide) (by rfl) (L2N.passes_call (L2N.takes_of rfl rfl rfl rfl) fun _ _ _ _ h => h) (pa_cons (dCall (E := E) cl_call_graph hr (by decide) (by rfl) (L2N.passes_call (L2N.takes_of rfl rfl rfl rfl) fun _ _ _ _ h => h) (pa_cons (pv 0) (pa_cons (pv 1) pa_nil))) (pa_cons (pe_tupleOf (by rfl) n_tuple (pv 4)) pa_nil))))))))))
theorem der__law_refusal {P : Program} {w : World} {K : PySem.W.Frag} {mg : Str → Option Value} {base : Heap} {f : Addr} {C_BadCalls : Addr} {C_BadDeals : Addr} {C_BadGroup : Addr} {C_BadLine : Addr} {C_BadNumber : Addr} {C_BadRow : Addr} {C_BadSteps : Addr} {C_BadTable : Addr} {C_BadText : Addr} {C_BadWorlds : Addr} {C_JointError : Addr} {C_NotThere : Addr} {C_NothingDone : Addr} {C_TooLarge : Addr} {sp_all_know : Sp} {sp_call_graph : Sp} {sp_first_needless : Sp} {sp_known_after : Sp} (cl_all_know : Cl P w K mg base 5 "all_know" sp_all_know) (cl_call_graph : Cl P w K mg base 5 "call_graph" sp_call_graph) (cl_first_needless : Cl P w K mg base 5 "first_needless" sp_first_needless) (cl_known_after : Cl P w K mg base 5 "known_after" sp_known_after) (g_BadCalls : mg "BadCalls" = some (.ref C_BadCalls)) (g_BadDeals : mg "BadDeals" = some (.ref C_BadDeals)) (g_BadGroup : mg "BadGroup" = some (.ref C_BadGroup)) (g_BadLine : mg "BadLine" = some (.ref C_BadLine)) (g_BadNumber : mg "BadNumber" = some (.ref C_BadNumber)) (g_BadRow : mg "BadRow" = some (.ref C_BadRow)) (g_BadSteps : mg "BadSteps" = some (.ref C_BadSteps)) (g_BadTable : mg "BadTable" = some (.ref C_BadTable)) (g_BadText : mg "BadText" = some (.ref C_BadText)) (g_BadWorlds : mg "BadWorlds" = some (.ref C_BadWorlds)) (g_JointError : mg "JointError" = some (.ref C_JointError)) (g_NotThere : mg "NotThere" = some (.ref C_NotThere)) (g_NothingDone : mg "NothingDone" = some (.ref C_NothingDone)) (g_TooLarge : mg "TooLarge" = some (.ref C_TooLarge)) (xf_BadRow : XfC K C_BadRow) (np_place : PySem.W.findIn K (.ref C_BadRow) "place" = some none) (n_ValueError : mg "ValueError" = none) (n_isinstance : mg "isinstance" = none) (n_len : mg "len" = none) (n_range : mg "range" = none) (n_tuple : mg "tuple" = none) (cdv : Value) (A : Around) (outer : List Env) (s : Shared) (H : Hp) (E : XK) (hr : Room 5 (A.deeper (envOfC "_law_refusal" (defScope s__law_refusal) s.heap.objs.size f cdv))) :
    PSs (cxOf (L2N.CX P w) P w K mg base N__law_refusal "_law_refusal" (defScope s__law_refusal) f cdv A outer s H E) (defBody s__law_refusal) (t__law_refusal K w C_BadCalls C_BadDeals C_BadGroup C_BadLine C_BadNumber C_BadRow C_BadSteps C_BadTable C_BadText C_BadWorlds C_JointError C_NotThere C_NothingDone C_TooLarge sp_all_know sp_call_graph sp_first_needless sp_known_after E) :=
  (pss_cons (L2N.ps_try_as (i := 3) rfl rfl sc__law_refusal.nd rfl rfl ⟨(by rfl), (by decide), .inl g_JointError⟩ (L2N.takes_of rfl rfl rfl rfl) (fun W pn xe tk hown =>
    (pss_one (ps_if (pt_cmpR (oEq hr.units) (pv 0) pe_int (nomark _)) (pss_one (ps_expr (dCallS cl_known_after hr (by decide) (by rfl) tk (pa_cons (pv 1) (pa_cons (pv 2) pa_nil))))) (pss_one (ps_if (pt_cmpR (oEq hr.units) (pv 0) pe_int (nomark _)) (pss_one (ps_expr (dCallS cl_all_know hr (by decide) (by rfl) tk (pa_cons (pv 1) (pa_cons (pv 2) pa_nil))))) (pss_one (ps_if (pt_cmpR (oEq hr.units) (pv 0) pe_int (nomark _)) (pss_one (ps_expr (dCallS cl_first_needless hr (by decide) (by rfl) tk (pa_cons (pv 1) (pa_cons (pv 2) pa_nil))))) (pss_one (ps_expr (dCallS cl_call_graph hr (by decide) (by rfl) tk (pa_cons (pv 1) (pa_cons (pv 2) pa_nil)))))))))))) (fun a oe cls d pn hz hf =>
    (pss_cons (ps_set (i := 4) sc__law_refusal.nd rfl (by first | exact Or.inl rfl | exact Or.inr rfl) (pe_lst (pa_cons (pe_callB (call_isX hz hf) (by rfl) n_isinstance (by decide +kernel) (pa_cons (pv 3) (pa_cons (pe_glob (by rfl) g_BadNumber rfl) pa_nil))) (pa_cons (pe_callB (call_isX hz hf) (by rfl) n_isinstance (by decide +kernel) (pa_cons (pv 3) (pa_cons (pe_glob (by rfl) g_BadCalls rfl) pa_nil))) (pa_cons (pe_callB (call_isX hz hf) (by rfl) n_isinstance (by decide +kernel) (pa_cons (pv 3) (pa_cons (pe_glob (by rfl) g_BadGroup rfl) pa_nil))) (pa_cons (pe_callB (call_isX hz hf) (by rfl) n_isinstance (by decide +kernel) (pa_cons (pv 3) (pa_cons (pe_glob (by rfl) g_BadRow rfl) pa_nil))) pa_nil))))))
    (pss_cons (ps_set (i := 4) sc__law_refusal.nd rfl (by first | exact Or.inl rfl | exact Or.inr rfl) (pe_op oAdd (pv 4) (pe_lst (pa_cons (pe_callB (call_isX hz hf) (by rfl) n_isinstance (by decide +kernel) (pa_cons (pv 3) (pa_cons (pe_glob (by rfl) g_BadDeals rfl) pa_nil))) (pa_cons (pe_callB (call_isX hz hf) (by rfl) n_isinstance (by decide +kernel) (pa_cons (pv 3) (pa_cons (pe_glob (by rfl) g_BadLine rfl) pa_nil))) (pa_cons (pe_callB (call_isX hz hf) (by rfl) n_isinstance (by decide +kernel) (pa_cons (pv 3) (pa_cons (pe_glob (by rfl) g_BadSteps rfl) pa_nil))) pa_nil))))))
    (pss_cons (ps_set (i := 4) sc__law_refusal.nd rfl (by first | exact Or.inl rfl | exact Or.inr rfl) (pe_op oAdd (pv 4) (pe_lst (pa_cons (pe_callB (call_isX hz hf) (by rfl) n_isinstance (by decide +kernel) (pa_cons (pv 3) (pa_cons (pe_glob (by rfl) g_BadTable rfl) pa_nil))) (pa_cons (pe_callB (call_isX hz hf) (by rfl) n_isinstance (by decide +kernel) (pa_cons (pv 3) (pa_cons (pe_glob (by rfl) g_BadText rfl) pa_nil))) (pa_cons (pe_callB (call_isX hz hf) (by rfl) n_isinstance (by decide +kernel) (pa_cons (pv 3) (pa_cons (pe_glob (by rfl) g_BadWorlds rfl) pa_nil))) pa_nil))))))
    (pss_cons (ps_set (i := 4) sc__law_refusal.nd rfl (by first | exact Or.inl rfl | exact Or.inr rfl) (pe_op oAdd (pv 4) (pe_lst (pa_cons (pe_callB (call_isX hz hf) (by rfl) n_isinstance (by decide +kernel) (pa_cons (pv 3) (pa_cons (pe_glob (by rfl) g_NothingDone rfl) pa_nil))) pa_nil))))
    (pss_cons (ps_set (i := 4) sc__law_refusal.nd rfl (by first | exact Or.inl rfl | exact Or.inr rfl) (pe_op oAdd (pv 4) (pe_lst (pa_cons (pe_callB (call_isX hz hf) (by rfl) n_isinstance (by decide +kernel) (pa_cons (pv 3) (pa_cons (pe_glob (by rfl) g_NotThere rfl) pa_nil))) (pa_cons (pe_callB (call_isX hz hf) (by rfl) n_isinstance (by decide +kernel) (pa_cons (pv 3) (pa_cons (pe_glob (by rfl) g_TooLarge rfl) pa_nil))) (pa_cons (pe_not (pe_callB (call_isX hz hf) (by rfl) n_isinstance (by decide +kernel) (pa_cons (pv 3) (pa_cons (pe_bltn (v := .ty "ValueError") (by rfl) n_ValueError (by decide +kernel) rfl) pa_nil)))) pa_nil))))))
    (pss_cons (ps_set (i := 5) sc__law_refusal.nd rfl (by first | exact Or.inl rfl | exact Or.inr rfl) pe_int)
    (pss_cons (ps_if (pt_val (pe_callB (call_isX hz hf) (by rfl) n_isinstance (by decide +kernel) (pa_cons (pv 3) (pa_cons (pe_glob (by rfl) g_BadRow rfl) pa_nil)))) (pss_one (ps_set (i := 5) sc__law_refusal.nd rfl (by first | exact Or.inl rfl | exact Or.inr rfl) (pe_xf xf_BadRow np_place hz.zc hf (pv 3)))) pss_nil)
    (pss_one (ps_ret (pe_lst (pa_cons (pe_tupleOf (by rfl) n_tuple (pe_lcK (own := [("k", 6)]) (hot_of hz hf) sc__law_refusal.nd (pi_range1K (by rfl) n_range (pa_cons (pe_callB cLen (by rfl) n_len (by decide +kernel) (pa_cons (pv 4) pa_nil)) pa_nil)) (blkOk_by (own := [("k", 6)]) (N := N__law_refusal) (sc := defScope s__law_refusal) (by decide +kernel)) (fun _ _ _ _ _ => (pg_name (i := 6) sc__law_refusal.nd rfl (by first | exact Or.inl rfl | exact Or.inr rfl))) (fun _ _ _ _ _ => (pts_one (pt_val (pe_ix ix_seq (pv 4) (pv 6) (fun _ _ => rfl))))) (fun _ _ _ _ _ => (pv 6)))) (pa_cons (pv 5) pa_nil))))))))))))))
    (pss_one (ps_ret (pe_lst (pa_cons (pe_tup pa_nil) (pa_cons pe_int pa_nil))))))
theorem der__law_bad_number {P : Program} {w : World} {K : PySem.W.Frag} {mg : Str → Option Value} {base : Heap} {f : Addr} {sp__law_take : Sp} (cl__law_take : Cl P w K mg base 1 "_law_take" sp__law_take) (cdv : Value) (A : Around) (outer : List Env) (s : Shared) (H : Hp) (E : XK) (hr : Room 1 (A.deeper (envOfC "_law_bad_number" (defScope s__law_bad_number) s.heap.objs.size f cdv))) :
    PSs (cxOf (L2N.CX P w) P w K mg base N__law_bad_number "_law_bad_number" (defScope s__law_bad_number) f cdv A outer s H E) (defBody s__law_bad_number) (t__law_bad_number K w sp__law_take E) :=
  (pss_one (ps_ret (pe_ix ix_seq (pe_tup (pa_cons pe_int (pa_cons pe_int (pa_cons pe_int (pa_cons pe_bl (pa_cons pe_non (pa_cons pe_str (pa_cons (pe_tup (pa_cons pe_int pa_nil)) (pa_cons (pe_op oSub pe_int pe_int) (pa_cons pe_int pa_nil)))))))))) (dCall (E := E) cl__law_take hr (by decide) (by rfl) (L2N.passes_call (L2N.takes_of rfl rfl rfl rfl) fun _ _ _ _ h => h) (pa_cons (pv 0) (pa_cons pe_int pa_nil))) (fun _ _ => rfl))))
theorem der__law_bad_pair {P : Program} {w : World} {K : PySem.W.Frag} {mg : Str → Option Value} {base : Heap} {f : Addr} {sp__law_take : Sp} (cl__law_take : Cl P w K mg base 1 "_law_take" sp__law_take) (n_str : mg "str" = none) (cdv : Value) (A : Around) (outer : List Env) (s : Shared) (H : Hp) (E : XK) (hr : Room 1 (A.deeper (envOfC "_law_bad_pair" (defScope s__law_bad_pair) s.heap.objs.size f cdv))) :
    PSs (cxOf (L2N.CX P w) P w K mg base N__law_bad_pair "_law_bad_pair" (defScope s__law_bad_pair) f cdv A outer s H E) (defBody s__law_bad_pair) (t__law_bad_pair K w sp__law_take E) :=
  (pss_cons (ps_set (i := 4) sc__law_bad_pair.nd rfl (by first | exact Or.inl rfl | exact Or.inr rfl) (dCall (E := E) cl__law_take hr (by decide) (by rfl) (L2N.passes_call (L2N.takes_of rfl rfl rfl rfl) fun _ _ _ _ h => h) (pa_cons (pv 0) (pa_cons pe_int pa_nil))))
    (pss_cons (ps_if (pt_cmpR oLt (pv 4) pe_int (nomark _)) (pss_one (ps_ret (pe_ix ix_seq (pe_tup (pa_cons (pe_tup (pa_cons (pv 3) (pa_cons (pv 2) pa_nil))) (pa_cons (pe_tup (pa_cons (pv 2) (pa_cons (pv 2) pa_nil))) (pa_cons (pe_tup (pa_cons (pv 2) (pa_cons (pv 1) pa_nil))) (pa_cons (pe_tup (pa_cons (pe_op oSub pe_int pe_int) (pa_cons (pv 3) pa_nil))) pa_nil))))) (pv 4) (fun _ _ => rfl)))) pss_nil)
    (pss_cons (ps_if (pt_cmpR oLt (pv 4) pe_int (nomark _)) (pss_one (ps_ret (pe_ix ix_seq (pe_tup (pa_cons (pe_tup (pa_cons (pv 2) (pa_cons (pv 3) (pa_cons (pv 3) pa_nil)))) (pa_cons (pe_tup (pa_cons (pv 2) pa_nil)) (pa_cons (pe_lst (pa_cons (pv 2) (pa_cons (pv 3) pa_nil))) (pa_cons (pe_tup (pa_cons pe_bl (pa_cons (pv 3) pa_nil))) pa_nil))))) (pe_op oSub (pv 4) pe_int) (fun _ _ => rfl)))) pss_nil)
    (pss_one (ps_ret (pe_ix ix_seq (pe_tup (pa_cons pe_non (pa_cons pe_str (pa_cons (pe_tup (pa_cons (pv 2) (pa_cons (pe_callTy cStr (by rfl) n_str (by decide +kernel) (pa_cons (pv 3) pa_nil)) pa_nil))) (pa_cons (pe_tup (pa_cons (pv 2) (pa_cons pe_int pa_nil))) pa_nil))))) (pe_op oSub (pv 4) pe_int) (fun _ _ => rfl)))))))
theorem der__law_bad_calls {P : Program} {w : World} {K : PySem.W.Frag} {mg : Str → Option Value} {base : Heap} {f : Addr} {sp__law_bad_pair : Sp} {sp__law_take : Sp} (cl__law_bad_pair : Cl P w K mg base 2 "_law_bad_pair" sp__law_bad_pair) (cl__law_take : Cl P w K mg base 1 "_law_take" sp__law_take) (n_len : mg "len" = none) (n_list : mg "list" = none) (cdv : Value) (A : Around) (outer : List Env) (s : Shared) (H : Hp) (E : XK) (hr : Room 2 (A.deeper (envOfC "_law_bad_calls" (defScope s__law_bad_calls) s.heap.objs.size f cdv))) :
    PSs (cxOf (L2N.CX P w) P w K mg base N__law_bad_calls "_law_bad_calls" (defScope s__law_bad_calls) f cdv A outer s H E) (defBody s__law_bad_calls) (t__law_bad_calls K w sp__law_bad_pair sp__law_take E) :=
  (pss_cons (ps_set (i := 3) sc__law_bad_calls.nd rfl (by first | exact Or.inl rfl | exact Or.inr rfl) (dCall (E := E) cl__law_take hr (by decide) (by rfl) (L2N.passes_call (L2N.takes_of rfl rfl rfl rfl) fun _ _ _ _ h => h) (pa_cons (pv 0) (pa_cons pe_int pa_nil))))
    (pss_cons (ps_if (pt_cmpR (oEq hr.units) (pv 3) pe_int (nomark _)) (pss_one (ps_ret (pe_callTy cList (by rfl) n_list (by decide +kernel) (pa_cons (pv 2) pa_nil)))) pss_nil)
    (pss_cons (ps_if (pt_cmpR (oEq hr.units) (pv 3) pe_int (nomark _)) (pss_one (ps_ret pe_non)) pss_nil)
    (pss_cons (ps_if (pt_cmpR (oEq hr.units) (pv 3) pe_int (nomark _)) (pss_one (ps_ret pe_str)) pss_nil)
    (pss_cons (ps_if (pt_cmpR oLt (pv 3) pe_int (nomark _)) (pss_one (ps_ret (pe_op oAdd (pv 2) (pe_op oMul (pe_tup (pa_cons (pe_ix ix_seq (pv 2) pe_int (fun _ _ => rfl)) pa_nil)) (pe_op oSub pe_int (pe_callB cLen (by rfl) n_len (by decide +kernel) (pa_cons (pv 2) pa_nil))))))) pss_nil)
    (pss_cons (ps_set (i := 4) sc__law_bad_calls.nd rfl (by first | exact Or.inl rfl | exact Or.inr rfl) (dCall (E := E) cl__law_take hr (by decide) (by rfl) (L2N.passes_call (L2N.takes_of rfl rfl rfl rfl) fun _ _ _ _ h => h) (pa_cons (pv 0) (pa_cons (pe_callB cLen (by rfl) n_len (by decide +kernel) (pa_cons (pv 2) pa_nil)) pa_nil))))
    (pss_cons (ps_set (i := 5) sc__law_bad_calls.nd rfl (by first | exact Or.inl rfl | exact Or.inr rfl) (dCall (E := E) cl__law_bad_pair hr (by decide) (by rfl) (L2N.passes_call (L2N.takes_of rfl rfl rfl rfl) fun _ _ _ _ h => h) (pa_cons (pv 0) (pa_cons (pv 1) (pa_cons (pe_ix ix_seq (pe_ix ix_seq (pv 2) (pv 4) (fun _ _ => rfl)) pe_int (fun _ _ => rfl)) (pa_cons (pe_ix ix_seq (pe_ix ix_seq (pv 2) (pv 4) (fun _ _ => rfl)) pe_int (fun _ _ => rfl)) pa_nil))))))
    (pss_one (ps_ret (pe_op oAdd (pe_op oAdd (pe_slice sSeq (pv 2) po_none (po_some (pv 4))) (pe_tup (pa_cons (pv 5) pa_nil))) (pe_slice sSeq (pv 2) (po_some (pe_op oAdd (pv 4) pe_int)) po_none)))))))))))
theorem der_law {P : Program} {w : World} {K : PySem.W.Frag} {mg : Str → Option Value} {base : Heap} {f : Addr} {sp__law_bad_calls : Sp} {sp__law_bad_number : Sp} {sp__law_closing : Sp} {sp__law_drawn_calls : Sp} {sp__law_pool : Sp} {sp__law_refusal : Sp} {sp__law_row_fits : Sp} {sp__law_same : Sp} {sp__law_take : Sp} {sp__law_walk : Sp} (cl__law_bad_calls : Cl P w K mg base 3 "_law_bad_calls" sp__law_bad_calls) (cl__law_bad_number : Cl P w K mg base 2 "_law_bad_number" sp__law_bad_number) (cl__law_closing : Cl P w K mg base 1 "_law_closing" sp__law_closing) (cl__law_drawn_calls : Cl P w K mg base 2 "_law_drawn_calls" sp__law_drawn_calls) (cl__law_pool : Cl P w K mg base 1 "_law_pool" sp__law_pool) (cl__law_refusal : Cl P w K mg base 6 "_law_refusal" sp__law_refusal) (cl__law_row_fits : Cl P w K mg base 10 "_law_row_fits" sp__law_row_fits) (cl__law_same : Cl P w K mg base 9 "_law_same" sp__law_same) (cl__law_take : Cl P w K mg base 1 "_law_take" sp__law_take) (cl__law_walk : Cl P w K mg base 1 "_law_walk" sp__law_walk) (n_len : mg "len" = none) (n_min : mg "min" = none) (n_range : mg "range" = none) (n_tuple : mg "tuple" = none) (cdv : Value) (A : Around) (outer : List Env) (s : Shared) (H : Hp) (E : XK) (hr : Room 10 (A.deeper (envOfC "law" (defScope s_law) s.heap.objs.size f cdv))) :
    PSs (cxOf (L2N.CX P w) P w K mg base N_law "law" (defScope s_law) f cdv A outer s H E) (defBody s_law) (t_law K w sp__law_bad_calls sp__law_bad_number sp__law_closing sp__law_drawn_calls sp__law_pool sp__law_refusal sp__law_row_fits sp__law_same sp__law_take sp__law_walk E) :=
  (pss_cons (ps_set (i := 1) sc_law.nd rfl (by first | exact Or.inl rfl | exact Or.inr rfl) (dCall (E := E) cl__law_pool hr (by decide) (by rfl) (L2N.passes_call (L2N.takes_of rfl rfl rfl rfl) fun _ _ _ _ h => h) (pa_cons (pv 0) pa_nil)))
    (pss_cons (ps_set (i := 2) sc_law.nd rfl (by first | exact Or.inl rfl | exact Or.inr rfl) (pe_op oAdd pe_int (dCall (E := E) cl__law_take hr (by decide) (by rfl) (L2N.passes_call (L2N.takes_of rfl rfl rfl rfl) fun _ _ _ _ h => h) (pa_cons (pv 1) (pa_cons pe_int pa_nil)))))
    (pss_cons (ps_set (i := 3) sc_law.nd rfl (by first | exact Or.inl rfl | exact Or.inr rfl) (dCall (E := E) cl__law_drawn_calls hr (by decide) (by rfl) (L2N.passes_call (L2N.takes_of rfl rfl rfl rfl) fun _ _ _ _ h => h) (pa_cons (pv 1) (pa_cons (pv 2) pa_nil))))
    (pss_cons (ps_set (i := 4) sc_law.nd rfl (by first | exact Or.inl rfl | exact Or.inr rfl) (pe_op oAdd (pv 3) (dCall (E := E) cl__law_closing hr (by decide) (by rfl) (L2N.passes_call (L2N.takes_of rfl rfl rfl rfl) fun _ _ _ _ h => h) (pa_cons (pv 2) pa_nil))))
    (pss_cons (ps_set (i := 5) sc_law.nd rfl (by first | exact Or.inl rfl | exact Or.inr rfl) pe_int)
    (pss_cons (ps_for (passes_of rfl) rfl (pi_range1 (by rfl) n_range (pa_cons (pe_callB cLen (by rfl) n_len (by decide +kernel) (pa_cons (pv 4) pa_nil)) pa_nil)) (pg_name (i := 6) sc_law.nd rfl (by first | exact Or.inl rfl | exact Or.inr rfl)) (pss_one (ps_if (pt_cmpR (oNe hr.units) (pe_callB (cr_min rfl) (by rfl) n_min (by decide +kernel) (pa_cons (pe_ix ix_seq (dCall (E := E) cl__law_walk hr (by decide) (by rfl) (L2N.passes_call (L2N.takes_of rfl rfl rfl rfl) fun _ _ _ _ h => h) (pa_cons (pv 2) (pa_cons (pe_slice sSeq (pv 4) po_none (po_some (pv 6))) pa_nil))) pe_int (fun _ _ => rfl)) pa_nil)) (pe_op oSub (pe_op oShl pe_int (pv 2)) pe_int) (nomark _)) (pss_one (ps_set (i := 5) sc_law.nd rfl (by first | exact Or.inl rfl | exact Or.inr rfl) (pv 6))) pss_nil)))
    (pss_cons (ps_set (i := 7) sc_law.nd rfl (by first | exact Or.inl rfl | exact Or.inr rfl) (dCall (E := E) cl__law_take hr (by decide) (by rfl) (L2N.passes_call (L2N.takes_of rfl rfl rfl rfl) fun _ _ _ _ h => h) (pa_cons (pv 1) (pa_cons (pe_op oAdd (pe_callB cLen (by rfl) n_len (by decide +kernel) (pa_cons (pv 4) pa_nil)) pe_int) pa_nil))))
    (pss_cons (ps_if (PW.pt (pw_or (pt_not (pt_val (dCall (E := E) cl__law_row_fits hr (by decide) (by rfl) (L2N.passes_call (L2N.takes_of rfl rfl rfl rfl) fun _ _ _ _ h => h) (pa_cons (pv 2) (pa_cons (pe_tup pa_nil) (pa_cons pe_bl pa_nil)))))) (pw_or1 (pt_not (pt_val (dCall (E := E) cl__law_row_fits hr (by decide) (by rfl) (L2N.passes_call (L2N.takes_of rfl rfl rfl rfl) fun _ _ _ _ h => h) (pa_cons (pv 2) (pa_cons (pe_slice sSeq (pv 4) po_none (po_some (pv 7))) (pa_cons (pe_cmpR oGt (pv 7) (pv 5) (nomark _)) pa_nil))))))))) (pss_one (ps_ret pe_bl)) pss_nil)
    (pss_cons (ps_if (PW.pt (pw_or (pt_not (pt_val (dCall (E := E) cl__law_row_fits hr (by decide) (by rfl) (L2N.passes_call (L2N.takes_of rfl rfl rfl rfl) fun _ _ _ _ h => h) (pa_cons (pv 2) (pa_cons (pe_slice sSeq (pv 4) po_none (po_some (pv 5))) (pa_cons pe_bl pa_nil)))))) (pw_or1 (pt_not (pt_val (dCall (E := E) cl__law_row_fits hr (by decide) (by rfl) (L2N.passes_call (L2N.takes_of rfl rfl rfl rfl) fun _ _ _ _ h => h) (pa_cons (pv 2) (pa_cons (pe_slice sSeq (pv 4) po_none (po_some (pe_op oAdd (pv 5) pe_int))) (pa_cons pe_bl pa_nil))))))))) (pss_one (ps_ret pe_bl)) pss_nil)
    (pss_cons (ps_set (i := 8) sc_law.nd rfl (by first | exact Or.inl rfl | exact Or.inr rfl) (pe_op oAdd (pv 4) (pe_op oMul (pe_tup (pa_cons (pe_ix ix_seq (pv 4) (pe_op oSub (pe_callB cLen (by rfl) n_len (by decide +kernel) (pa_cons (pv 4) pa_nil)) pe_int) (fun _ _ => rfl)) pa_nil)) (pe_op oSub pe_int (pe_callB cLen (by rfl) n_len (by decide +kernel) (pa_cons (pv 4) pa_nil))))))
    (pss_cons (ps_if (PW.pt (pw_or (pt_not (pt_val (dCall (E := E) cl__law_row_fits hr (by decide) (by rfl) (L2N.passes_call (L2N.takes_of rfl rfl rfl rfl) fun _ _ _ _ h => h) (pa_cons (pv 2) (pa_cons (pv 4) (pa_cons pe_bl pa_nil)))))) (pw_or1 (pt_not (pt_val (dCall (E := E) cl__law_row_fits hr (by decide) (by rfl) (L2N.passes_call (L2N.takes_of rfl rfl rfl rfl) fun _ _ _ _ h => h) (pa_cons (pv 2) (pa_cons (pv 8) (pa_cons pe_bl pa_nil))))))))) (pss_one (ps_ret pe_bl)) pss_nil)
    (pss_cons (ps_set (i := 9) sc_law.nd rfl (by first | exact Or.inl rfl | exact Or.inr rfl) (dCall (E := E) cl__law_bad_number hr (by decide) (by rfl) (L2N.passes_call (L2N.takes_of rfl rfl rfl rfl) fun _ _ _ _ h => h) (pa_cons (pv 1) pa_nil)))
    (pss_cons (ps_set (i := 10) sc_law.nd rfl (by first | exact Or.inl rfl | exact Or.inr rfl) (dCall (E := E) cl__law_bad_calls hr (by decide) (by rfl) (L2N.passes_call (L2N.takes_of rfl rfl rfl rfl) fun _ _ _ _ h => h) (pa_cons (pv 1) (pa_cons (pv 2) (pa_cons (pv 4) pa_nil)))))
    (pss_cons (ps_set (i := 11) sc_law.nd rfl (by first | exact Or.inl rfl | exact Or.inr rfl) (pe_op oAdd (pv 8) (pe_tup (pa_cons (pe_ix ix_seq (pv 4) pe_int (fun _ _ => rfl)) pa_nil))))
    (pss_cons (ps_for (passes_of rfl) rfl (pi_range1 (by rfl) n_range (pa_cons pe_int pa_nil)) (pg_name (i := 12) sc_law.nd rfl (by first | exact Or.inl rfl | exact Or.inr rfl)) (pss_cons (ps_if (pt_not (pt_val (dCall (E := E) cl__law_same hr (by decide) (by rfl) (L2N.passes_call (L2N.takes_of rfl rfl rfl rfl) fun _ _ _ _ h => h) (pa_cons (pe_tupleOf (by rfl) n_tuple (dCall (E := E) cl__law_refusal hr (by decide) (by rfl) (L2N.passes_call (L2N.takes_of rfl rfl rfl rfl) fun _ _ _ _ h => h) (pa_cons (pv 12) (pa_cons (pv 2) (pa_cons (pv 4) pa_nil))))) (pa_cons (pe_tup (pa_cons (pe_tup pa_nil) (pa_cons pe_int pa_nil))) pa_nil))))) (pss_one (ps_ret pe_bl)) pss_nil)
    (pss_cons (ps_if (pt_not (pt_val (dCall (E := E) cl__law_same hr (by decide) (by rfl) (L2N.passes_call (L2N.takes_of rfl rfl rfl rfl) fun _ _ _ _ h => h) (pa_cons (pe_tupleOf (by rfl) n_tuple (dCall (E := E) cl__law_refusal hr (by decide) (by rfl) (L2N.passes_call (L2N.takes_of rfl rfl rfl rfl) fun _ _ _ _ h => h) (pa_cons (pv 12) (pa_cons (pv 9) (pa_cons (pv 4) pa_nil))))) (pa_cons (pe_tup (pa_cons (pe_tup (pa_cons pe_int pa_nil)) (pa_cons pe_int pa_nil))) pa_nil))))) (pss_one (ps_ret pe_bl)) pss_nil)
    (pss_cons (ps_if (pt_not (pt_val (dCall (E := E) cl__law_same hr (by decide) (by rfl) (L2N.passes_call (L2N.takes_of rfl rfl rfl rfl) fun _ _ _ _ h => h) (pa_cons (pe_tupleOf (by rfl) n_tuple (dCall (E := E) cl__law_refusal hr (by decide) (by rfl) (L2N.passes_call (L2N.takes_of rfl rfl rfl rfl) fun _ _ _ _ h => h) (pa_cons (pv 12) (pa_cons (pv 2) (pa_cons (pv 10) pa_nil))))) (pa_cons (pe_tup (pa_cons (pe_tup (pa_cons pe_int pa_nil)) (pa_cons pe_int pa_nil))) pa_nil))))) (pss_one (ps_ret pe_bl)) pss_nil)
    (pss_cons (ps_if (pt_not (pt_val (dCall (E := E) cl__law_same hr (by decide) (by rfl) (L2N.passes_call (L2N.takes_of rfl rfl rfl rfl) fun _ _ _ _ h => h) (pa_cons (pe_tupleOf (by rfl) n_tuple (dCall (E := E) cl__law_refusal hr (by decide) (by rfl) (L2N.passes_call (L2N.takes_of rfl rfl rfl rfl) fun _ _ _ _ h => h) (pa_cons (pv 12) (pa_cons (pv 9) (pa_cons (pv 10) pa_nil))))) (pa_cons (pe_tup (pa_cons (pe_tup (pa_cons pe_int pa_nil)) (pa_cons pe_int pa_nil))) pa_nil))))) (pss_one (ps_ret pe_bl)) pss_nil)
    (pss_one (ps_if (pt_not (pt_val (dCall (E := E) cl__law_same hr (by decide) (by rfl) (L2N.passes_call (L2N.takes_of rfl rfl rfl rfl) fun _ _ _ _ h => h) (pa_cons (pe_tupleOf (by rfl) n_tuple (dCall (E := E) cl__law_refusal hr (by decide) (by rfl) (L2N.passes_call (L2N.takes_of rfl rfl rfl rfl) fun _ _ _ _ h => h) (pa_cons (pv 12) (pa_cons (pv 2) (pa_cons (pv 11) pa_nil))))) (pa_cons (pe_tup (pa_cons (pe_tup (pa_cons pe_int pa_nil)) (pa_cons pe_int pa_nil))) pa_nil))))) (pss_one (ps_ret pe_bl)) pss_nil)))))))
    (pss_one (ps_ret pe_bl)))))))))))))))))
abbrev dd_is_integer : He.DefD := ⟨("is_integer", none), "is_integer", "is_integer", defArgs s_is_integer, defBody s_is_integer, defScope s_is_integer, [], []⟩
abbrev dd_is_from_to : He.DefD := ⟨("is_from_to", none), "is_from_to", "is_from_to", defArgs s_is_from_to, defBody s_is_from_to, defScope s_is_from_to, [], []⟩
abbrev dd_check_number : He.DefD := ⟨("check_number", none), "check_number", "check_number", defArgs s_check_number, defBody s_check_number, defScope s_check_number, [], []⟩
abbrev dd_are_pairs : He.DefD := ⟨("are_pairs", none), "are_pairs", "are_pairs", defArgs s_are_pairs, defBody s_are_pairs, defScope s_are_pairs, [], []⟩
abbrev dd_check_calls : He.DefD := ⟨("check_calls", none), "check_calls", "check_calls", defArgs s_check_calls, defBody s_check_calls, defScope s_check_calls, [], []⟩
abbrev dd_led : He.DefD := ⟨("led", none), "led", "led", defArgs s_led, defBody s_led, defScope s_led, [], []⟩
abbrev dd_known_after : He.DefD := ⟨("known_after", none), "known_after", "known_after", defArgs s_known_after, defBody s_known_after, defScope s_known_after, [], []⟩
abbrev dd_all_know : He.DefD := ⟨("all_know", none), "all_know", "all_know", defArgs s_all_know, defBody s_all_know, defScope s_all_know, [], []⟩
abbrev dd_first_needless : He.DefD := ⟨("first_needless", none), "first_needless", "first_needless", defArgs s_first_needless, defBody s_first_needless, defScope s_first_needless, [], []⟩
abbrev dd_call_graph : He.DefD := ⟨("call_graph", none), "call_graph", "call_graph", defArgs s_call_graph, defBody s_call_graph, defScope s_call_graph, [], []⟩
abbrev dd__law_pool : He.DefD := ⟨("_law_pool", none), "_law_pool", "_law_pool", defArgs s__law_pool, defBody s__law_pool, defScope s__law_pool, [], []⟩
abbrev dd__law_take : He.DefD := ⟨("_law_take", none), "_law_take", "_law_take", defArgs s__law_take, defBody s__law_take, defScope s__law_take, [], []⟩
abbrev dd__law_same : He.DefD := ⟨("_law_same", none), "_law_same", "_law_same", defArgs s__law_same, defBody s__law_same, defScope s__law_same, [], []⟩
abbrev dd__law_drawn_calls : He.DefD := ⟨("_law_drawn_calls", none), "_law_drawn_calls", "_law_drawn_calls", defArgs s__law_drawn_calls, defBody s__law_drawn_calls, defScope s__law_drawn_calls, [], []⟩
abbrev dd__law_closing : He.DefD := ⟨("_law_closing", none), "_law_closing", "_law_closing", defArgs s__law_closing, defBody s__law_closing, defScope s__law_closing, [], []⟩
abbrev dd__law_walk : He.DefD := ⟨("_law_walk", none), "_law_walk", "_law_walk", defArgs s__law_walk, defBody s__law_walk, defScope s__law_walk, [], []⟩
abbrev dd__law_lot : He.DefD := ⟨("_law_lot", none), "_law_lot", "_law_lot", defArgs s__law_lot, defBody s__law_lot, defScope s__law_lot, [], []⟩
abbrev dd__law_row_fits : He.DefD := ⟨("_law_row_fits", none), "_law_row_fits", "_law_row_fits", defArgs s__law_row_fits, defBody s__law_row_fits, defScope s__law_row_fits, [], []⟩
abbrev dd__law_refusal : He.DefD := ⟨("_law_refusal", none), "_law_refusal", "_law_refusal", defArgs s__law_refusal, defBody s__law_refusal, defScope s__law_refusal, [], []⟩
abbrev dd__law_bad_number : He.DefD := ⟨("_law_bad_number", none), "_law_bad_number", "_law_bad_number", defArgs s__law_bad_number, defBody s__law_bad_number, defScope s__law_bad_number, [], []⟩
abbrev dd__law_bad_pair : He.DefD := ⟨("_law_bad_pair", none), "_law_bad_pair", "_law_bad_pair", defArgs s__law_bad_pair, defBody s__law_bad_pair, defScope s__law_bad_pair, [], []⟩
abbrev dd__law_bad_calls : He.DefD := ⟨("_law_bad_calls", none), "_law_bad_calls", "_law_bad_calls", defArgs s__law_bad_calls, defBody s__law_bad_calls, defScope s__law_bad_calls, [], []⟩
abbrev dd_law : He.DefD := ⟨("law", none), "law", "law", defArgs s_law, defBody s_law, defScope s_law, [], []⟩
def fns : List He.DefD := [dd_is_integer, dd_is_from_to, dd_check_number, dd_are_pairs, dd_check_calls, dd_led, dd_known_after, dd_all_know, dd_first_needless, dd_call_graph, dd__law_pool, dd__law_take, dd__law_same, dd__law_drawn_calls, dd__law_closing, dd__law_walk, dd__law_lot, dd__law_row_fits, dd__law_refusal, dd__law_bad_number, dd__law_bad_pair, dd__law_bad_calls, dd_law]
def fas : List He.Fa := [.glo "is_integer", .glo "is_from_to", .glo "check_number", .glo "are_pairs", .glo "check_calls", .glo "led", .glo "known_after", .glo "all_know", .glo "first_needless", .glo "call_graph", .glo "_law_pool", .glo "_law_take", .glo "_law_same", .glo "_law_drawn_calls", .glo "_law_closing", .glo "_law_walk", .glo "_law_lot", .glo "_law_row_fits", .glo "_law_refusal", .glo "_law_bad_number", .glo "_law_bad_pair", .glo "_law_bad_calls", .glo "law", .glo "BadCalls", .glo "BadDeals", .glo "BadGroup", .glo "BadLine", .glo "BadNumber", .glo "BadRow", .glo "BadSteps", .glo "BadTable", .glo "BadText", .glo "BadWorlds", .glo "JointError", .glo "NotThere", .glo "NothingDone", .glo "TooLarge", .free "ValueError", .free "all", .free "bool", .free "int", .free "isinstance", .free "len", .free "list", .free "max", .free "min", .free "range", .free "set", .free "sorted", .free "str", .free "tuple", .int "MOST_CALLS" 40, .int "MOST_PEOPLE" 6, .exc "BadCalls", .exc "BadNumber"]
def exs : List (PySem.W.Frag → Bool) := [fun K => errB K (He.ga K "BadNumber") (He.ga K "JointError") (csL (He.ga K "BadNumber") (He.ga K "BadCalls") (He.ga K "BadGroup") (He.ga K "BadRow") (He.ga K "BadDeals") (He.ga K "BadLine") (He.ga K "BadSteps") (He.ga K "BadTable") (He.ga K "BadText") (He.ga K "BadWorlds") (He.ga K "NothingDone") (He.ga K "NotThere") (He.ga K "TooLarge")) 0,
  fun K => errB K (He.ga K "BadCalls") (He.ga K "JointError") (csL (He.ga K "BadNumber") (He.ga K "BadCalls") (He.ga K "BadGroup") (He.ga K "BadRow") (He.ga K "BadDeals") (He.ga K "BadLine") (He.ga K "BadSteps") (He.ga K "BadTable") (He.ga K "BadText") (He.ga K "BadWorlds") (He.ga K "NothingDone") (He.ga K "NotThere") (He.ga K "TooLarge")) 1,
  fun K => xfB K (He.ga K "BadRow"),
  fun K => noAtB K (He.ga K "BadRow") "place"]
theorem facts {P : Program} {w : World} {K : PySem.W.Frag} {h : Heap} {mg : Str → Option Value} {f : Addr} (X : K.In h) (G : h.Ns mainGlobals mg) (hfa : mg ("law" : Str) = some (.ref f)) (c : He.SaysD fas fns K) (cx : ∀ f ∈ exs, f K = true) :
    ∃ fd : FuncData, (∀ (s : Shared) (v : Value), BindsTo s fd ⟨[v], []⟩ [("script", v)]) ∧ ∀ base : Heap, K.In base → base.Ns mainGlobals mg → FnOk P w K mg base (L2N.CX P w) 11 f fd ["script"] (sp_law K) := by
  have F_is_integer := c.def_ 0 (d := dd_is_integer) rfl
  have g_is_integer := He.glo_ok X G (c.fact 0 (f := .glo "is_integer") rfl)
  have F_is_from_to := c.def_ 1 (d := dd_is_from_to) rfl
  have g_is_from_to := He.glo_ok X G (c.fact 1 (f := .glo "is_from_to") rfl)
  have F_check_number := c.def_ 2 (d := dd_check_number) rfl
  have g_check_number := He.glo_ok X G (c.fact 2 (f := .glo "check_number") rfl)
  have F_are_pairs := c.def_ 3 (d := dd_are_pairs) rfl
  have g_are_pairs := He.glo_ok X G (c.fact 3 (f := .glo "are_pairs") rfl)
  have F_check_calls := c.def_ 4 (d := dd_check_calls) rfl
  have g_check_calls := He.glo_ok X G (c.fact 4 (f := .glo "check_calls") rfl)
  have F_led := c.def_ 5 (d := dd_led) rfl
  have g_led := He.glo_ok X G (c.fact 5 (f := .glo "led") rfl)
  have F_known_after := c.def_ 6 (d := dd_known_after) rfl
  have g_known_after := He.glo_ok X G (c.fact 6 (f := .glo "known_after") rfl)
  have F_all_know := c.def_ 7 (d := dd_all_know) rfl
  have g_all_know := He.glo_ok X G (c.fact 7 (f := .glo "all_know") rfl)
  have F_first_needless := c.def_ 8 (d := dd_first_needless) rfl
  have g_first_needless := He.glo_ok X G (c.fact 8 (f := .glo "first_needless") rfl)
  have F_call_graph := c.def_ 9 (d := dd_call_graph) rfl
  have g_call_graph := He.glo_ok X G (c.fact 9 (f := .glo "call_graph") rfl)
  have F__law_pool := c.def_ 10 (d := dd__law_pool) rfl
  have g__law_pool := He.glo_ok X G (c.fact 10 (f := .glo "_law_pool") rfl)
  have F__law_take := c.def_ 11 (d := dd__law_take) rfl
  have g__law_take := He.glo_ok X G (c.fact 11 (f := .glo "_law_take") rfl)
  have F__law_same := c.def_ 12 (d := dd__law_same) rfl
  have g__law_same := He.glo_ok X G (c.fact 12 (f := .glo "_law_same") rfl)
  have F__law_drawn_calls := c.def_ 13 (d := dd__law_drawn_calls) rfl
  have g__law_drawn_calls := He.glo_ok X G (c.fact 13 (f := .glo "_law_drawn_calls") rfl)
  have F__law_closing := c.def_ 14 (d := dd__law_closing) rfl
  have g__law_closing := He.glo_ok X G (c.fact 14 (f := .glo "_law_closing") rfl)
  have F__law_walk := c.def_ 15 (d := dd__law_walk) rfl
  have g__law_walk := He.glo_ok X G (c.fact 15 (f := .glo "_law_walk") rfl)
  have F__law_lot := c.def_ 16 (d := dd__law_lot) rfl
  have g__law_lot := He.glo_ok X G (c.fact 16 (f := .glo "_law_lot") rfl)
  have F__law_row_fits := c.def_ 17 (d := dd__law_row_fits) rfl
  have g__law_row_fits := He.glo_ok X G (c.fact 17 (f := .glo "_law_row_fits") rfl)
  have F__law_refusal := c.def_ 18 (d := dd__law_refusal) rfl
  have g__law_refusal := He.glo_ok X G (c.fact 18 (f := .glo "_law_refusal") rfl)
  have F__law_bad_number := c.def_ 19 (d := dd__law_bad_number) rfl
  have g__law_bad_number := He.glo_ok X G (c.fact 19 (f := .glo "_law_bad_number") rfl)
  have F__law_bad_pair := c.def_ 20 (d := dd__law_bad_pair) rfl
  have g__law_bad_pair := He.glo_ok X G (c.fact 20 (f := .glo "_law_bad_pair") rfl)
  have F__law_bad_calls := c.def_ 21 (d := dd__law_bad_calls) rfl
  have g__law_bad_calls := He.glo_ok X G (c.fact 21 (f := .glo "_law_bad_calls") rfl)
  have F_law := c.def_ 22 (d := dd_law) rfl
  have g_law := He.glo_ok X G (c.fact 22 (f := .glo "law") rfl)
  have gC_BadCalls := He.glo_ok X G (c.fact 23 (f := .glo "BadCalls") rfl)
  have gC_BadDeals := He.glo_ok X G (c.fact 24 (f := .glo "BadDeals") rfl)
  have gC_BadGroup := He.glo_ok X G (c.fact 25 (f := .glo "BadGroup") rfl)
  have gC_BadLine := He.glo_ok X G (c.fact 26 (f := .glo "BadLine") rfl)
  have gC_BadNumber := He.glo_ok X G (c.fact 27 (f := .glo "BadNumber") rfl)
  have gC_BadRow := He.glo_ok X G (c.fact 28 (f := .glo "BadRow") rfl)
  have gC_BadSteps := He.glo_ok X G (c.fact 29 (f := .glo "BadSteps") rfl)
  have gC_BadTable := He.glo_ok X G (c.fact 30 (f := .glo "BadTable") rfl)
  have gC_BadText := He.glo_ok X G (c.fact 31 (f := .glo "BadText") rfl)
  have gC_BadWorlds := He.glo_ok X G (c.fact 32 (f := .glo "BadWorlds") rfl)
  have gC_JointError := He.glo_ok X G (c.fact 33 (f := .glo "JointError") rfl)
  have gC_NotThere := He.glo_ok X G (c.fact 34 (f := .glo "NotThere") rfl)
  have gC_NothingDone := He.glo_ok X G (c.fact 35 (f := .glo "NothingDone") rfl)
  have gC_TooLarge := He.glo_ok X G (c.fact 36 (f := .glo "TooLarge") rfl)
  have n_ValueError := He.free_ok X G (c.fact 37 (f := .free "ValueError") rfl)
  have n_all := He.free_ok X G (c.fact 38 (f := .free "all") rfl)
  have n_bool := He.free_ok X G (c.fact 39 (f := .free "bool") rfl)
  have n_int := He.free_ok X G (c.fact 40 (f := .free "int") rfl)
  have n_isinstance := He.free_ok X G (c.fact 41 (f := .free "isinstance") rfl)
  have n_len := He.free_ok X G (c.fact 42 (f := .free "len") rfl)
  have n_list := He.free_ok X G (c.fact 43 (f := .free "list") rfl)
  have n_max := He.free_ok X G (c.fact 44 (f := .free "max") rfl)
  have n_min := He.free_ok X G (c.fact 45 (f := .free "min") rfl)
  have n_range := He.free_ok X G (c.fact 46 (f := .free "range") rfl)
  have n_set := He.free_ok X G (c.fact 47 (f := .free "set") rfl)
  have n_sorted := He.free_ok X G (c.fact 48 (f := .free "sorted") rfl)
  have n_str := He.free_ok X G (c.fact 49 (f := .free "str") rfl)
  have n_tuple := He.free_ok X G (c.fact 50 (f := .free "tuple") rfl)
  have k_MOST_CALLS := He.int_ok X G (c.fact 51 (f := .int "MOST_CALLS" 40) rfl)
  have k_MOST_PEOPLE := He.int_ok X G (c.fact 52 (f := .int "MOST_PEOPLE" 6) rfl)
  have x_BadCalls : ExcF K (He.ga K "BadCalls") := He.exc_ok (c.fact 53 (f := .exc "BadCalls") rfl)
  have x_BadNumber : ExcF K (He.ga K "BadNumber") := He.exc_ok (c.fact 54 (f := .exc "BadNumber") rfl)
  have er0 := errB_ok (cx _ (List.mem_of_getElem? (i := 0) rfl))
  have er1 := errB_ok (cx _ (List.mem_of_getElem? (i := 1) rfl))
  have xf_BadRow := xfB_ok (cx _ (List.mem_of_getElem? (i := 2) rfl))
  have np_place := of_decide_eq_true (cx _ (List.mem_of_getElem? (i := 3) rfl))
  obtain ⟨fd, F⟩ := F_law
  have e := hfa.symm.trans g_law
  cases e
  have b := FunD.bindsA (ps := ["script"]) F (fun _ _ _ _ _ _ us hl => match us, hl with | [_], _ => rfl)
  refine ⟨fd, fun s v => b s [v] rfl, fun base _ _ => ?_⟩
  have cl_is_integer : Cl P w K mg base 1 "is_integer" (spR R_is_integer) := cl_of F_is_integer g_is_integer sc_is_integer (fun _ _ _ _ _ _ us hl => match us, hl with | [_], _ => rfl) (spR_len (n := 1) fun ds o h => by obtain ⟨_, rfl, _⟩ := h; rfl) (fun cdv A outer s H E hr => der_is_integer n_bool n_int n_isinstance cdv A outer s H E hr) (pure_is_integer)
  have cl_led : Cl P w K mg base 1 "led" (spN R_led) := cl_of F_led g_led sc_led (fun _ _ _ _ _ _ us hl => match us, hl with | [_, _], _ => rfl) (spN_len (n := 2) fun ds o h => by obtain ⟨_, _, _, rfl, _⟩ := h; rfl) (fun cdv A outer s H E hr => der_led n_list n_range n_set n_sorted n_tuple cdv A outer s H E hr) (pure_led)
  have cl__law_pool : Cl P w K mg base 1 "_law_pool" (sp__law_pool K) := cl_of F__law_pool g__law_pool sc__law_pool (fun _ _ _ _ _ _ us hl => match us, hl with | [_], _ => rfl) (fun vs H Q E h => by obtain ⟨_, _, rfl, _⟩ := h; rfl) (fun cdv A outer s H E hr => der__law_pool n_int n_len n_range cdv A outer s H E hr) (pure_pool)
  have cl__law_take : Cl P w K mg base 1 "_law_take" sp__law_take := cl_of F__law_take g__law_take sc__law_take (fun _ _ _ _ _ _ us hl => match us, hl with | [_, _], _ => rfl) (spD_len (n := 2) fun ds h => by obtain ⟨_, rfl, _⟩ := h; rfl) (fun cdv A outer s H E hr => der__law_take n_int n_len cdv A outer s H E hr) (pure_take)
  have cl__law_closing : Cl P w K mg base 1 "_law_closing" (spR R_closing) := cl_of F__law_closing g__law_closing sc__law_closing (fun _ _ _ _ _ _ us hl => match us, hl with | [_], _ => rfl) (spR_len (n := 1) fun ds o h => by obtain ⟨_, _, _, rfl, _⟩ := h; rfl) (fun cdv A outer s H E hr => der__law_closing n_range n_tuple cdv A outer s H E hr) (pure_closing)
  have cl__law_walk : Cl P w K mg base 1 "_law_walk" (spR R_walk) := cl_of F__law_walk g__law_walk sc__law_walk (fun _ _ _ _ _ _ us hl => match us, hl with | [_, _], _ => rfl) (spR_len (n := 2) fun ds o h => by obtain ⟨_, _, _, rfl, _⟩ := h; rfl) (fun cdv A outer s H E hr => der__law_walk n_len n_range cdv A outer s H E hr) (pure_walk)
  have cl__law_lot : Cl P w K mg base 1 "_law_lot" (spR R_lot) := cl_of F__law_lot g__law_lot sc__law_lot (fun _ _ _ _ _ _ us hl => match us, hl with | [_, _], _ => rfl) (spR_len (n := 2) fun ds o h => by obtain ⟨_, _, _, rfl, _⟩ := h; rfl) (fun cdv A outer s H E hr => der__law_lot n_range n_tuple cdv A outer s H E hr) (pure_lot)
  have cl_is_from_to : Cl P w K mg base 2 "is_from_to" (spR R_is_from_to) := cl_of F_is_from_to g_is_from_to sc_is_from_to (fun _ _ _ _ _ _ us hl => match us, hl with | [_, _, _], _ => rfl) (spR_len (n := 3) fun ds o h => by obtain ⟨_, _, _, rfl, _⟩ := h; rfl) (fun cdv A outer s H E hr => der_is_from_to cl_is_integer cdv A outer s H E hr) (pure_is_from_to)
  have cl__law_drawn_calls : Cl P w K mg base 2 "_law_drawn_calls" sp_drawn1 := cl_of F__law_drawn_calls g__law_drawn_calls sc__law_drawn_calls (fun _ _ _ _ _ _ us hl => match us, hl with | [_, _], _ => rfl) (spD_len (n := 2) fun ds h => by obtain ⟨_, _, _, rfl⟩ := h; rfl) (fun cdv A outer s H E hr => der__law_drawn_calls cl__law_take n_int n_len n_list n_max n_min n_range n_tuple cdv A outer s H E hr) (pure_drawn1)
  have cl__law_bad_number : Cl P w K mg base 2 "_law_bad_number" sp_badn := cl_of F__law_bad_number g__law_bad_number sc__law_bad_number (fun _ _ _ _ _ _ us hl => match us, hl with | [_], _ => rfl) (spD_len (n := 1) fun ds h => by rw [h]; rfl) (fun cdv A outer s H E hr => der__law_bad_number cl__law_take cdv A outer s H E hr) (pure_badn)
  have cl__law_bad_pair : Cl P w K mg base 2 "_law_bad_pair" sp_badp := cl_of F__law_bad_pair g__law_bad_pair sc__law_bad_pair (fun _ _ _ _ _ _ us hl => match us, hl with | [_, _, _, _], _ => rfl) (spD_len (n := 4) fun ds h => by obtain ⟨_, _, _, _, _, _, rfl⟩ := h; rfl) (fun cdv A outer s H E hr => der__law_bad_pair cl__law_take n_str cdv A outer s H E hr) (pure_badp)
  have cl_check_number : Cl P w K mg base 3 "check_number" (spR (R_check_number (He.ga K "BadNumber"))) := cl_of F_check_number g_check_number sc_check_number (fun _ _ _ _ _ _ us hl => match us, hl with | [_, _, _], _ => rfl) (spR_len (n := 3) fun ds o h => by obtain ⟨_, _, _, rfl, _⟩ := h; rfl) (fun cdv A outer s H E hr => der_check_number cl_is_from_to gC_BadNumber x_BadNumber cdv A outer s H E hr) (pure_check_number)
  have cl_are_pairs : Cl P w K mg base 3 "are_pairs" (spR R_are_pairs) := cl_of F_are_pairs g_are_pairs sc_are_pairs (fun _ _ _ _ _ _ us hl => match us, hl with | [_, _], _ => rfl) (spR_len (n := 2) fun ds o h => by obtain ⟨_, _, rfl, _⟩ := h; rfl) (fun cdv A outer s H E hr => der_are_pairs cl_is_from_to n_all n_isinstance n_len n_tuple cdv A outer s H E hr) (pure_are_pairs)
  have cl__law_bad_calls : Cl P w K mg base 3 "_law_bad_calls" sp_badc := cl_of F__law_bad_calls g__law_bad_calls sc__law_bad_calls (fun _ _ _ _ _ _ us hl => match us, hl with | [_, _, _], _ => rfl) (spD_len (n := 3) fun ds h => by obtain ⟨_, _, _, _, rfl⟩ := h; rfl) (fun cdv A outer s H E hr => der__law_bad_calls cl__law_bad_pair cl__law_take n_len n_list cdv A outer s H E hr) (pure_badc)
  have cl_check_calls : Cl P w K mg base 4 "check_calls" (spR (R_check_calls (He.ga K "BadNumber") (He.ga K "BadCalls"))) := cl_of F_check_calls g_check_calls sc_check_calls (fun _ _ _ _ _ _ us hl => match us, hl with | [_, _], _ => rfl) (spR_len (n := 2) fun ds o h => by obtain ⟨_, _, rfl, _⟩ := h; rfl) (fun cdv A outer s H E hr => der_check_calls cl_are_pairs cl_check_number k_MOST_CALLS k_MOST_PEOPLE gC_BadCalls x_BadCalls n_len cdv A outer s H E hr) (pure_check_calls)
  have cl_known_after : Cl P w K mg base 5 "known_after" (spR (R_chk (He.ga K "BadNumber") (He.ga K "BadCalls") knownD)) := cl_of F_known_after g_known_after sc_known_after (fun _ _ _ _ _ _ us hl => match us, hl with | [_, _], _ => rfl) (spR_len (n := 2) fun ds o h => by rcases h with ⟨_, _, _, rfl, _⟩ | ⟨_, _, rfl, _⟩ <;> rfl) (fun cdv A outer s H E hr => der_known_after cl_check_calls cl_led n_tuple cdv A outer s H E hr) (pure_known_after)
  have cl_all_know : Cl P w K mg base 5 "all_know" (spR (R_chk (He.ga K "BadNumber") (He.ga K "BadCalls") fun N cs => .bool (allB N (kn cs)))) := cl_of F_all_know g_all_know sc_all_know (fun _ _ _ _ _ _ us hl => match us, hl with | [_, _], _ => rfl) (spR_len (n := 2) fun ds o h => by rcases h with ⟨_, _, _, rfl, _⟩ | ⟨_, _, rfl, _⟩ <;> rfl) (fun cdv A outer s H E hr => der_all_know cl_check_calls cl_led n_all n_len cdv A outer s H E hr) (pure_all_know)
  have cl_first_needless : Cl P w K mg base 5 "first_needless" (spR (R_chk (He.ga K "BadNumber") (He.ga K "BadCalls") fun N cs => optD (fnl N cs))) := cl_of F_first_needless g_first_needless sc_first_needless (fun _ _ _ _ _ _ us hl => match us, hl with | [_, _], _ => rfl) (spR_len (n := 2) fun ds o h => by rcases h with ⟨_, _, _, rfl, _⟩ | ⟨_, _, rfl, _⟩ <;> rfl) (fun cdv A outer s H E hr => der_first_needless cl_check_calls cl_led n_len n_range cdv A outer s H E hr) (pure_first_needless)
  have cl_call_graph : Cl P w K mg base 5 "call_graph" (spR (R_chk (He.ga K "BadNumber") (He.ga K "BadCalls") graphD)) := cl_of F_call_graph g_call_graph sc_call_graph (fun _ _ _ _ _ _ us hl => match us, hl with | [_, _], _ => rfl) (spR_len (n := 2) fun ds o h => by rcases h with ⟨_, _, _, rfl, _⟩ | ⟨_, _, rfl, _⟩ <;> rfl) (fun cdv A outer s H E hr => der_call_graph cl_check_calls n_len n_range n_tuple cdv A outer s H E hr) (pure_call_graph)
  have cl__law_refusal : Cl P w K mg base 6 "_law_refusal" (spR R_refusal) := cl_of F__law_refusal g__law_refusal sc__law_refusal (fun _ _ _ _ _ _ us hl => match us, hl with | [_, _, _], _ => rfl) (spR_len (n := 3) fun ds o h => by obtain ⟨_, _, _, _, _, rfl, _⟩ := h; rfl) (fun cdv A outer s H E hr => der__law_refusal cl_all_know cl_call_graph cl_first_needless cl_known_after gC_BadCalls gC_BadDeals gC_BadGroup gC_BadLine gC_BadNumber gC_BadRow gC_BadSteps gC_BadTable gC_BadText gC_BadWorlds gC_JointError gC_NotThere gC_NothingDone gC_TooLarge xf_BadRow np_place n_ValueError n_isinstance n_len n_range n_tuple cdv A outer s H E hr) (pure_refusal er0 er1)
  have rec__law_same : ∀ d : Nat, Cl P w K mg base d "_law_same" (spR (R_same d)) := fun d => by
    induction d with
    | zero => exact cl_bot (fun _ _ _ _ h => by obtain ⟨_, _, _, _, _, h, _⟩ := h; exact h) F__law_same g__law_same (ps := ["found", "due"]) (fun _ _ _ _ _ _ us hl => match us, hl with | [_, _], _ => rfl)
    | succ d ih => exact cl_of F__law_same g__law_same sc__law_same (fun _ _ _ _ _ _ us hl => match us, hl with | [_, _], _ => rfl) (spR_len (n := 2) fun ds o h => by obtain ⟨_, _, rfl, _⟩ := h; rfl) (fun cdv A outer s H E hr => der__law_same ih n_bool n_int n_isinstance n_len n_range n_tuple cdv A outer s H E hr) (pure_same d)
  have cl__law_same := rec__law_same 9
  have cl__law_row_fits : Cl P w K mg base 10 "_law_row_fits" (spR R_row) := cl_of F__law_row_fits g__law_row_fits sc__law_row_fits (fun _ _ _ _ _ _ us hl => match us, hl with | [_, _, _], _ => rfl) (spR_len (n := 3) fun ds o h => by obtain ⟨_, _, _, rfl, _⟩ := h; rfl) (fun cdv A outer s H E hr => der__law_row_fits cl__law_lot cl__law_same cl__law_walk cl_all_know cl_call_graph cl_first_needless cl_known_after n_len n_min n_range n_tuple cdv A outer s H E hr) (pure_row)
  exact fnok_of F sc_law (fun vs H Q E h => by obtain ⟨_, _, rfl, _⟩ := h; rfl) (fun cdv A outer s H E hr => der_law cl__law_bad_calls cl__law_bad_number cl__law_closing cl__law_drawn_calls cl__law_pool cl__law_refusal cl__law_row_fits cl__law_same cl__law_take cl__law_walk n_len n_min n_range n_tuple cdv A outer s H E hr) (pure_law1)
abbrev theRow : PySem.W.OpenRow := PySem.W.OpenLaw.row PySem.Challenge.rw_everyhands_k91_whole_calls_led
abbrev hk : PySem.W.Hook := hookE 4 fas fns exs
def ob (s : PySem.W.SharedT) : He.AlD × Bool := obE 4 fas fns exs (HandSHeadRun.getT s)
theorem ob_eq (s : PySem.W.SharedT) : ob s = hk.obs s.abs := obE_eq (HandSHeadRun.getT_eq s)
abbrev loose : List PySem.Str := (["JointError", "BadGroup", "BadTable", "BadText", "BadNumber", "BadWorlds", "BadSteps", "BadCalls", "BadDeals", "NotThere", "TooLarge", "NothingDone"] : List PySem.Str) ++ (["BadRow", "BadLine", "is_integer", "is_from_to", "check_number", "are_pairs", "check_calls", "led", "known_after", "all_know", "first_needless", "call_graph"] : List PySem.Str) ++ (["_law_pool", "_law_take", "_law_same", "_law_drawn_calls", "_law_closing", "_law_walk", "_law_lot", "_law_row_fits", "_law_refusal", "_law_bad_number", "_law_bad_pair", "_law_bad_calls"] : List PySem.Str) ++ (["MOST_PEOPLE", "MOST_CALLS"] : List PySem.Str)
theorem run (w : World) : HandSHeadRun.RunEq theRow (PySem.W.view theRow.prog [43]) hk ob 4000 loose w := by
  intro os
  kernel_rfl
end Eh
open PySem PySem.W PySem.Calls PyProof.Rows
set_option maxHeartbeats 0
theorem PySem.Challenge.cw_everyhands_k91_whole_calls_led_holds : PySem.Challenge.rw_everyhands_k91_whole_calls_led.Holds := by
  w_on; o_law
  refine HandSHeadRun.head_any (r := OpenLaw.row PySem.Challenge.rw_everyhands_k91_whole_calls_led) (q := view (OpenLaw.row PySem.Challenge.rw_everyhands_k91_whole_calls_led).prog [43]) (H := Eh.hk) (ob := Eh.ob) (M := 4000) (loose := Eh.loose) (d := HandSHeadRun.topDef (OpenLaw.row PySem.Challenge.rw_everyhands_k91_whole_calls_led).prog 43) (kwd := []) Eh.ob_eq
    (by kernel_rfl) (fun s => by kernel_rfl) Eh.run (by kernel_rfl) (by kernel_rfl) (by kernel_rfl) (by rfl) (by first | assumption | decide +kernel) (by decide +kernel) ⟨rfl, rfl, rfl, rfl, rfl, by decide +kernel⟩ ?hw ?hc
  case hw => w_witness2
  case hc =>
    refine Eh.walkE (l := PySem.Challenge.rw_everyhands_k91_whole_calls_led) (n := 63) (k := 11) (x := "script") (CX := fun w => L2N.CX (PySem.Challenge.rw_everyhands_k91_whole_calls_led).prog w) rfl (by decide) (by kernel_rfl) ⟨rfl, by decide, by decide⟩ ?F (fun _ _ _ _ _ z => Eh.cxn_false z)
    intro w mg fa h Y G hmg0
    obtain ⟨K, KX, c, cx⟩ := Y
    have hmg : mg ("law" : PySem.Str) = some (.ref fa) := by
      have e : (HandSHeadRun.topDef (OpenLaw.row PySem.Challenge.rw_everyhands_k91_whole_calls_led).prog 43).name = ("law" : PySem.Str) := by kernel_rfl
      rw [← e]
      exact hmg0
    obtain ⟨fd, hb, hF⟩ := Eh.facts (P := (PySem.Challenge.rw_everyhands_k91_whole_calls_led).prog) (w := w) KX G hmg c cx
    exact ⟨K, fd, Eh.sp_law K, KX, hb, fun H a ns hl ho hS => ⟨a, ns, rfl, Eh.fz_of ho hS, hl, fun _ => rfl⟩, hF⟩
