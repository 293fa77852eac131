import PyProof.Rows.All
import Wide.All
import OpenK.AllK
import Wide.FinOn
import HandS.ForMost
import HandS.Style
import HandS.Conv
import HandS.Wide
import HandS.NoneIn
import HandS.WordsDict
import HandS.WordsExc
import HandS.RevRange
import HandS.Ends
import HandS.IsInst
import KE.KSortTupG
import HandS.SortInts
import KE.DatumOrd
import HandS.SortKw
import PyProof.StrBlock2
import PyProof.ListStr
import PyProof.SliceStr2
import HandS.SetFor
import PyProof.EqKinds
import HandS.SetTxt0
import HandS.Strs
import PyProof.Rows.SortStr
import PyProof.Rows.SortKeyStr
import PySem.Challenge.RW_seedreach_k18_bound_of_two_rows
set_option Elab.async false
set_option linter.all false
set_option maxRecDepth 100000
set_option maxHeartbeats 4000000
/-! Dt1: data, mutable objects, the state's assertion, results. -/
namespace Dt
open PySem PySem.Spec PyProof.Rows L2

/-- data: what never changes is deep; own k is the k-th mutable object -/
inductive D where
  | non | bl (b : Bool) | int (i : Int) | str (s : List Nat) | lst (ds : List D) | tup (ds : List D) | own (k : Nat) | ref (a : Addr) | ty (n : String) | obj (C : Addr) (ns : List Str) (ds : List D) | scr (ns : List Int)

abbrev DKey := Sum Int (List Nat)
/-- a mutable object -/
inductive MO where
  | lst (ds : List D) | dK (kvs : List (DKey × D)) | dT (kvs : List (List DKey × D)) | ins (C : Addr) (fs : List (Str × D)) | lck (m : MO) | gone
abbrev Mu := List MO
/-- where the mutable objects stand; what is hidden from data meanwhile (a list that a comprehension makes) -/
structure Led where
  ad : List Addr
  hid : List Addr
def Led.push (α : Led) (p : Addr) : Led := ⟨α.ad ++ [p], α.hid⟩
abbrev Stb := Addr → Option (Bool × HO)
abbrev Env := List (Option D)

def mkS (s : List Nat) : Str := ⟨s.toArray⟩
theorem mkS_len (s : List Nat) : (mkS s).length = s.length := rfl
theorem mkS_cps (s : List Nat) : (mkS s).cps.toList = s := rfl
theorem mkS_of (z : Str) : mkS z.cps.toList = z := rfl

def isGone : MO → Bool
  | .gone => true
  | _ => false

def isLive : MO → Bool
  | .gone => false
  | .lck _ => false
  | _ => true
theorem isGone_of {m : MO} (h : isLive m = true) : isGone m = false := by cases m <;> first | rfl | cases h
def live : List Addr → List MO → List Addr
  | a :: α, m :: μ => if isLive m then a :: live α μ else live α μ
  | _, _ => []
theorem mem_live {a : Addr} : ∀ {α : List Addr} {μ : List MO}, a ∈ live α μ ↔ ∃ (k : Nat) (m : MO), α[k]? = some a ∧ μ[k]? = some m ∧ isLive m = true
  | [], μ => by simp [live]
  | b :: α, [] => by simp [live]
  | b :: α, m :: μ => by
    have ih := mem_live (a := a) (α := α) (μ := μ)
    unfold live
    constructor
    · intro h
      by_cases g : isLive m = true
      · rw [if_pos g] at h
        rcases List.mem_cons.mp h with e | h
        · exact ⟨0, m, by rw [e]; rfl, rfl, g⟩
        · obtain ⟨k, m', h1, h2, h3⟩ := ih.mp h
          exact ⟨k + 1, m', h1, h2, h3⟩
      · rw [if_neg g] at h
        obtain ⟨k, m', h1, h2, h3⟩ := ih.mp h
        exact ⟨k + 1, m', h1, h2, h3⟩
    · rintro ⟨k, m', h1, h2, h3⟩
      cases k with
      | zero =>
        have e1 : b = a := Option.some.inj h1
        have e2 : m = m' := Option.some.inj h2
        subst e1; subst e2
        rw [if_pos h3]
        exact List.mem_cons_self
      | succ k =>
        have h := ih.mpr ⟨k, m', h1, h2, h3⟩
        split
        · exact List.mem_cons_of_mem _ h
        · exact h

/-- what stays: the heap without the live mutable objects; what is hidden stays too, but no data lean on it -/
def stb (α : Led) (μ : Mu) (H : Hp) : Stb := fun a => if a ∈ live α.ad μ then none else (H a).map fun o => (decide (a ∉ α.hid), o)
theorem stb_some {α : Led} {μ : Mu} {H : Hp} {a : Addr} {b : Bool} {o : HO} (h : stb α μ H a = some (b, o)) : H a = some o ∧ a ∉ live α.ad μ ∧ b = decide (a ∉ α.hid) := by
  unfold stb at h
  split at h
  · cases h
  · rename_i n
    cases e : H a with
    | none => rw [e] at h; cases h
    | some u =>
      rw [e] at h
      injection h with h
      injection h with h1 h2
      exact ⟨by rw [h2], n, h1.symm⟩
theorem stb_of {α : Led} {μ : Mu} {H : Hp} {a : Addr} {o : HO} (h : H a = some o) (n : a ∉ live α.ad μ) : stb α μ H a = some (decide (a ∉ α.hid), o) := by
  unfold stb
  rw [if_neg n, h]
  rfl

/-- an object of the written part that is a list -/
def KLst (K : PySem.W.Frag) (a : Addr) (xs : List V) : Prop := ∃ (o : Obj) (its : Array Value) (n : Nat), K.lookup a = some o ∧ o.cls = .type "list" ∧ o.dict = none ∧ o.data = .seq its n ∧ its.size ≤ sizeLine ∧ Vals xs its.toList
mutual
def Den (K : PySem.W.Frag) (α : Led) (S : Stb) : D → V → Prop
  | .non, v => v = .non
  | .bl b, v => v = .bl b
  | .int i, v => v = .int i
  | .str s, v => v = .str (mkS s) ∧ s.length ≤ sizeLine ∧ ∀ c ∈ s, c < 1114112
  | .lst ds, v => ∃ a xs, v = .ref a ∧ S a = some (true, .lst xs) ∧ DenL K α S ds xs
  | .tup ds, v => ∃ a xs, v = .ref a ∧ S a = some (true, .tup xs) ∧ DenL K α S ds xs
  | .own k, v => ∃ a, α.ad[k]? = some a ∧ v = .ref a
  | .ref a, v => v = .ref a
  | .ty n, v => v = .ty n
  | .obj C ns ds, v => ∃ a dx xs, v = .ref a ∧ S a = some (true, .ins C dx (ns.zip xs)) ∧ ns.length = ds.length ∧ DenL K α S ds xs
  | .scr ns, v => ∃ a, v = .ref a ∧ ((∃ ob, S a = some (true, .frz ob (.lst (ns.map V.int)))) ∨ KLst K a (ns.map V.int))
def DenL (K : PySem.W.Frag) (α : Led) (S : Stb) : List D → List V → Prop
  | [], vs => vs = []
  | d :: ds, vs => ∃ v r, vs = v :: r ∧ Den K α S d v ∧ DenL K α S ds r
end

/-- what is known goes on being so -/
structure Mo (α : Led) (S : Stb) (α' : Led) (S' : Stb) : Prop where
  pre : ∀ (k : Nat) (a : Addr), α.ad[k]? = some a → α'.ad[k]? = some a
  ext : ∀ (a : Addr) (o : Bool × HO), S a = some o → S' a = some o
  hid : α'.hid = α.hid
structure Mx (α : Led) (S : Stb) (α' : Led) (S' : Stb) : Prop where
  pre : ∀ (k : Nat) (a : Addr), α.ad[k]? = some a → α'.ad[k]? = some a
  ext : ∀ (a : Addr) (o : Bool × HO), S a = some o → S' a = some o
theorem Mo.x {α α' : Led} {S S' : Stb} (m : Mo α S α' S') : Mx α S α' S' := ⟨m.pre, m.ext⟩
theorem Mx.trans {α α1 α2 : Led} {S S1 S2 : Stb} (a : Mx α S α1 S1) (b : Mx α1 S1 α2 S2) : Mx α S α2 S2 := ⟨fun k x h => b.pre k x (a.pre k x h), fun k x h => b.ext k x (a.ext k x h)⟩
theorem Mo.refl (α : Led) (S : Stb) : Mo α S α S := ⟨fun _ _ h => h, fun _ _ h => h, rfl⟩
theorem Mo.trans {α α1 α2 : Led} {S S1 S2 : Stb} (a : Mo α S α1 S1) (b : Mo α1 S1 α2 S2) : Mo α S α2 S2 :=
  ⟨fun k x h => b.pre k x (a.pre k x h), fun k x h => b.ext k x (a.ext k x h), b.hid.trans a.hid⟩
/-- what data lean on -/
def leanO : HO → Bool
  | .lst _ => true | .tup _ => true | .ins _ _ _ => true | .frz _ (.lst _) => true
  | _ => false
structure Mw (α : Led) (S : Stb) (α' : Led) (S' : Stb) : Prop where
  pre : ∀ (k : Nat) (a : Addr), α.ad[k]? = some a → α'.ad[k]? = some a
  ext : ∀ (a : Addr) (o : HO), leanO o = true → S a = some (true, o) → S' a = some (true, o)
theorem Mx.w {α α' : Led} {S S' : Stb} (m : Mx α S α' S') : Mw α S α' S' := ⟨m.pre, fun a o _ h => m.ext a _ h⟩
theorem Mo.w {α α' : Led} {S S' : Stb} (m : Mo α S α' S') : Mw α S α' S' := ⟨m.pre, fun a o _ h => m.ext a _ h⟩
section
variable {K : PySem.W.Frag} {α α' : Led} {S S' : Stb}
mutual
theorem Den.monow (m : Mw α S α' S') : ∀ {d : D} {v : V}, Den K α S d v → Den K α' S' d v
  | .non, v, h => by unfold Den at h ⊢; exact h
  | .bl b, v, h => by unfold Den at h ⊢; exact h
  | .int i, v, h => by unfold Den at h ⊢; exact h
  | .str s, v, h => by unfold Den at h ⊢; exact h
  | .lst ds, v, h => by
    unfold Den at h ⊢
    obtain ⟨a, xs, e, h1, h2⟩ := h
    exact ⟨a, xs, e, m.ext _ _ rfl h1, DenL.monow m h2⟩
  | .tup ds, v, h => by
    unfold Den at h ⊢
    obtain ⟨a, xs, e, h1, h2⟩ := h
    exact ⟨a, xs, e, m.ext _ _ rfl h1, DenL.monow m h2⟩
  | .own k, v, h => by
    unfold Den at h ⊢
    obtain ⟨a, e, h1⟩ := h
    exact ⟨a, m.pre k a e, h1⟩
  | .ref a, v, h => by unfold Den at h ⊢; exact h
  | .ty a, v, h => by unfold Den at h ⊢; exact h
  | .obj C ns ds, v, h => by
    unfold Den at h ⊢
    obtain ⟨a, dx, xs, e, h1, h2, h3⟩ := h
    exact ⟨a, dx, xs, e, m.ext _ _ rfl h1, h2, DenL.monow m h3⟩
  | .scr ns, v, h => by
    unfold Den at h ⊢
    obtain ⟨a, e, h⟩ := h
    refine ⟨a, e, ?_⟩
    rcases h with ⟨ob, h⟩ | h
    · exact .inl ⟨ob, m.ext _ _ rfl h⟩
    · exact .inr h
theorem DenL.monow (m : Mw α S α' S') : ∀ {ds : List D} {vs : List V}, DenL K α S ds vs → DenL K α' S' ds vs
  | [], vs, h => by unfold DenL at h ⊢; exact h
  | d :: ds, vs, h => by
    unfold DenL at h ⊢
    obtain ⟨v, r, e, h1, h2⟩ := h
    exact ⟨v, r, e, Den.monow m h1, DenL.monow m h2⟩
end
theorem Den.mono (m : Mo α S α' S') {d : D} {v : V} (h : Den K α S d v) : Den K α' S' d v := h.monow m.w
theorem DenL.mono (m : Mo α S α' S') {d : List D} {v : List V} (h : DenL K α S d v) : DenL K α' S' d v := h.monow m.w
theorem DenL.length : ∀ {ds : List D} {vs : List V}, DenL K α S ds vs → ds.length = vs.length
  | [], vs, h => by unfold DenL at h; rw [h]; rfl
  | d :: ds, vs, h => by
    unfold DenL at h
    obtain ⟨v, r, e, h1, h2⟩ := h
    rw [e, List.length_cons, List.length_cons, DenL.length h2]
theorem DenL.nil : DenL K α S [] [] := by unfold DenL; rfl
theorem DenL.cons {d : D} {v : V} {ds : List D} {vs : List V} (h : Den K α S d v) (t : DenL K α S ds vs) : DenL K α S (d :: ds) (v :: vs) := by
  unfold DenL
  exact ⟨v, vs, rfl, h, t⟩
theorem DenL.cons_inv {d : D} {ds : List D} {vs : List V} (h : DenL K α S (d :: ds) vs) : ∃ v r, vs = v :: r ∧ Den K α S d v ∧ DenL K α S ds r := by
  unfold DenL at h
  exact h
theorem DenL.nil_inv {vs : List V} (h : DenL K α S [] vs) : vs = [] := by unfold DenL at h; exact h
theorem DenL.get : ∀ {ds : List D} {vs : List V} {i : Nat} {d : D}, DenL K α S ds vs → ds[i]? = some d → ∃ v, vs[i]? = some v ∧ Den K α S d v
  | [], vs, i, d, h, e => by simp at e
  | d' :: ds, vs, 0, d, h, e => by
    obtain ⟨v, r, rfl, h1, h2⟩ := h.cons_inv
    simp at e
    subst e
    exact ⟨v, rfl, h1⟩
  | d' :: ds, vs, i + 1, d, h, e => by
    obtain ⟨v, r, rfl, h1, h2⟩ := h.cons_inv
    simp at e
    obtain ⟨v', e', h'⟩ := DenL.get h2 e
    exact ⟨v', by simpa using e', h'⟩
theorem DenL.get' {ds : List D} {vs : List V} {i : Nat} {v : V} (h : DenL K α S ds vs) (e : vs[i]? = some v) : ∃ d, ds[i]? = some d ∧ Den K α S d v := by
  have hl := h.length
  have hi : i < ds.length := by
    rw [hl]
    exact (List.getElem?_eq_some_iff.mp e).1
  obtain ⟨v', e', h'⟩ := h.get (List.getElem?_eq_getElem hi)
  rw [e] at e'
  cases e'
  exact ⟨_, List.getElem?_eq_getElem hi, h'⟩
theorem DenL.append : ∀ {ds es : List D} {vs ws : List V}, DenL K α S ds vs → DenL K α S es ws → DenL K α S (ds ++ es) (vs ++ ws)
  | [], es, vs, ws, h, t => by rw [h.nil_inv]; exact t
  | d :: ds, es, vs, ws, h, t => by
    obtain ⟨v, r, rfl, h1, h2⟩ := h.cons_inv
    exact .cons h1 (DenL.append h2 t)
theorem DenL.drop : ∀ {ds : List D} {vs : List V} (n : Nat), DenL K α S ds vs → DenL K α S (ds.drop n) (vs.drop n)
  | ds, vs, 0, h => h
  | [], vs, n + 1, h => by rw [h.nil_inv]; exact .nil
  | d :: ds, vs, n + 1, h => by
    obtain ⟨v, r, rfl, h1, h2⟩ := h.cons_inv
    exact DenL.drop n h2
theorem DenL.take : ∀ {ds : List D} {vs : List V} (n : Nat), DenL K α S ds vs → DenL K α S (ds.take n) (vs.take n)
  | ds, vs, 0, h => .nil
  | [], vs, n + 1, h => by rw [h.nil_inv]; exact .nil
  | d :: ds, vs, n + 1, h => by
    obtain ⟨v, r, rfl, h1, h2⟩ := h.cons_inv
    exact .cons h1 (DenL.take n h2)
theorem DenL.set : ∀ {ds : List D} {vs : List V} (i : Nat) {d : D} {v : V}, DenL K α S ds vs → Den K α S d v → DenL K α S (ds.set i d) (vs.set i v)
  | [], vs, i, d, v, h, t => by rw [h.nil_inv]; exact .nil
  | d' :: ds, vs, 0, d, v, h, t => by
    obtain ⟨v', r, rfl, h1, h2⟩ := h.cons_inv
    exact .cons t h2
  | d' :: ds, vs, i + 1, d, v, h, t => by
    obtain ⟨v', r, rfl, h1, h2⟩ := h.cons_inv
    exact .cons h1 (DenL.set i h2 t)
theorem DenL.eraseIdx : ∀ {ds : List D} {vs : List V} (i : Nat), DenL K α S ds vs → DenL K α S (ds.eraseIdx i) (vs.eraseIdx i)
  | [], vs, i, h => by rw [h.nil_inv]; exact .nil
  | d' :: ds, vs, 0, h => by
    obtain ⟨v', r, rfl, h1, h2⟩ := h.cons_inv
    exact h2
  | d' :: ds, vs, i + 1, h => by
    obtain ⟨v', r, rfl, h1, h2⟩ := h.cons_inv
    exact .cons h1 (DenL.eraseIdx i h2)
theorem DenL.dropLast {ds : List D} {vs : List V} (h : DenL K α S ds vs) : DenL K α S ds.dropLast vs.dropLast := by
  rw [List.dropLast_eq_take, List.dropLast_eq_take, h.length]
  exact h.take _
theorem DenL.reverse : ∀ {ds : List D} {vs : List V}, DenL K α S ds vs → DenL K α S ds.reverse vs.reverse
  | [], vs, h => by rw [h.nil_inv]; exact .nil
  | d :: ds, vs, h => by
    obtain ⟨v, r, rfl, h1, h2⟩ := h.cons_inv
    rw [List.reverse_cons, List.reverse_cons]
    exact DenL.append (DenL.reverse h2) (.cons h1 .nil)
def TxOk (s : List Nat) : Prop := s.length ≤ sizeLine ∧ ∀ c ∈ s, c < 1114112
theorem Den.str {s : List Nat} (h : TxOk s) : Den K α S (.str s) (.str (mkS s)) := by unfold Den; exact ⟨rfl, h⟩
theorem Den.str_inv {s : List Nat} {v : V} (h : Den K α S (.str s) v) : v = .str (mkS s) ∧ TxOk s := by unfold Den at h; exact h
theorem Den.int {i : Int} : Den K α S (.int i) (.int i) := by unfold Den; rfl
theorem Den.int_inv {i : Int} {v : V} (h : Den K α S (.int i) v) : v = .int i := by unfold Den at h; exact h
theorem Den.bl {i : Bool} : Den K α S (.bl i) (.bl i) := by unfold Den; rfl
theorem Den.bl_inv {i : Bool} {v : V} (h : Den K α S (.bl i) v) : v = .bl i := by unfold Den at h; exact h
theorem Den.non : Den K α S .non .non := by unfold Den; rfl
theorem Den.non_inv {v : V} (h : Den K α S .non v) : v = .non := by unfold Den at h; exact h
theorem Den.ref {a : Addr} : Den K α S (.ref a) (.ref a) := by unfold Den; rfl
theorem Den.ref_inv {a : Addr} {v : V} (h : Den K α S (.ref a) v) : v = .ref a := by unfold Den at h; exact h
theorem Den.ty {n : String} : Den K α S (.ty n) (.ty n) := by unfold Den; rfl
theorem Den.ty_inv {n : String} {v : V} (h : Den K α S (.ty n) v) : v = .ty n := by unfold Den at h; exact h
theorem Den.obj {C a dx : Addr} {ns : List Str} {ds : List D} {xs : List V} (h : S a = some (true, .ins C dx (ns.zip xs))) (hl : ns.length = ds.length) (t : DenL K α S ds xs) : Den K α S (.obj C ns ds) (.ref a) := by unfold Den; exact ⟨a, dx, xs, rfl, h, hl, t⟩
theorem Den.obj_inv {C : Addr} {ns : List Str} {ds : List D} {v : V} (h : Den K α S (.obj C ns ds) v) : ∃ a dx xs, v = .ref a ∧ S a = some (true, .ins C dx (ns.zip xs)) ∧ ns.length = ds.length ∧ DenL K α S ds xs := by unfold Den at h; exact h
theorem Den.scr_inv {ns : List Int} {v : V} (h : Den K α S (.scr ns) v) : ∃ a, v = .ref a ∧ ((∃ ob, S a = some (true, .frz ob (.lst (ns.map V.int)))) ∨ KLst K a (ns.map V.int)) := by unfold Den at h; exact h
theorem Den.own {k : Nat} {a : Addr} (h : α.ad[k]? = some a) : Den K α S (.own k) (.ref a) := by unfold Den; exact ⟨a, h, rfl⟩
theorem Den.own_inv {k : Nat} {v : V} (h : Den K α S (.own k) v) : ∃ a, α.ad[k]? = some a ∧ v = .ref a := by unfold Den at h; exact h
theorem Den.lst {ds : List D} {a : Addr} {xs : List V} (h : S a = some (true, .lst xs)) (t : DenL K α S ds xs) : Den K α S (.lst ds) (.ref a) := by unfold Den; exact ⟨a, xs, rfl, h, t⟩
theorem Den.lst_inv {ds : List D} {v : V} (h : Den K α S (.lst ds) v) : ∃ a xs, v = .ref a ∧ S a = some (true, .lst xs) ∧ DenL K α S ds xs := by unfold Den at h; exact h
theorem Den.tup {ds : List D} {a : Addr} {xs : List V} (h : S a = some (true, .tup xs)) (t : DenL K α S ds xs) : Den K α S (.tup ds) (.ref a) := by unfold Den; exact ⟨a, xs, rfl, h, t⟩
theorem Den.tup_inv {ds : List D} {v : V} (h : Den K α S (.tup ds) v) : ∃ a xs, v = .ref a ∧ S a = some (true, .tup xs) ∧ DenL K α S ds xs := by unfold Den at h; exact h
theorem DenL.strs : ∀ {ss : List (List Nat)}, (∀ s ∈ ss, TxOk s) → DenL K α S (ss.map D.str) ((ss.map mkS).map V.str)
  | [], h => .nil
  | s :: ss, h => .cons (Den.str (h s List.mem_cons_self)) (DenL.strs fun t ht => h t (List.mem_cons_of_mem _ ht))
theorem DenL.ints : ∀ {ns : List Int}, DenL K α S (ns.map D.int) (ns.map V.int)
  | [] => .nil
  | s :: ss => .cons (by unfold Den; rfl) DenL.ints
theorem DenL.ints_inv : ∀ {ns : List Int} {vs : List V}, DenL K α S (ns.map D.int) vs → vs = ns.map V.int
  | [], vs, h => h.nil_inv
  | n :: ns, vs, h => by
    obtain ⟨v, r, rfl, h1, h2⟩ := h.cons_inv
    unfold Den at h1
    rw [h1, DenL.ints_inv h2]
    rfl
theorem DenL.strs_inv : ∀ {ss : List (List Nat)} {vs : List V}, DenL K α S (ss.map D.str) vs → vs = (ss.map mkS).map V.str ∧ ∀ s ∈ ss, TxOk s
  | [], vs, h => ⟨h.nil_inv, by simp⟩
  | n :: ns, vs, h => by
    obtain ⟨v, r, rfl, h1, h2⟩ := h.cons_inv
    unfold Den at h1
    obtain ⟨h3, h4⟩ := DenL.strs_inv h2
    refine ⟨by rw [h1.1, h3]; rfl, fun s hs => ?_⟩
    rcases List.mem_cons.mp hs with e | hs
    · rw [e]; exact h1.2
    · exact h4 s hs
end

/-! ### mutable objects over the heap -/
def keyS : DKey → Key
  | .inl i => .inl i
  | .inr s => .inr (mkS s)
theorem keyS_inj : ∀ {a b : DKey}, keyS a = keyS b → a = b
  | .inl i, .inl j, h => by rw [Sum.inl.inj h]
  | .inr s, .inr t, h => by
    have e : mkS s = mkS t := Sum.inr.inj h
    have e2 : (mkS s).cps.toList = (mkS t).cps.toList := by rw [e]
    rw [mkS_cps, mkS_cps] at e2
    rw [e2]
  | .inl i, .inr t, h => by cases h
  | .inr s, .inl j, h => by cases h
def KD (K : PySem.W.Frag) (α : Led) (S : Stb) {κ κ' : Type} (f : κ → κ') : List (κ × D) → List (κ' × V) → Prop
  | [], ys => ys = []
  | p :: r, ys => ∃ v t, ys = (f p.1, v) :: t ∧ Den K α S p.2 v ∧ KD K α S f r t
def KeyOk : DKey → Prop
  | .inl _ => True
  | .inr s => TxOk s
def MRep (K : PySem.W.Frag) (α : Led) (S : Stb) : MO → HO → Prop
  | .lst ds, o => ∃ xs, o = .lst xs ∧ DenL K α S ds xs
  | .dK kvs, o => ∃ ys, o = .dK ys ∧ KD K α S keyS kvs ys ∧ ∀ p ∈ kvs, KeyOk p.1
  | .dT kvs, o => ∃ ys, o = .dT ys ∧ KD K α S (fun k => k.map keyS) kvs ys ∧ ∀ p ∈ kvs, ∀ k ∈ p.1, KeyOk k
  | .ins C fs, o => ∃ dx ys, o = .ins C dx ys ∧ KD K α S id fs ys
  | .lck m, o => ∃ ob u, o = .frz ob u ∧ MRep K α S m u
  | .gone, _ => True
section
variable {K : PySem.W.Frag} {α α' : Led} {S S' : Stb} {κ κ' : Type} {f : κ → κ'}
theorem KD.monow (m : Mw α S α' S') : ∀ {kvs : List (κ × D)} {ys : List (κ' × V)}, KD K α S f kvs ys → KD K α' S' f kvs ys
  | [], ys, h => h
  | p :: r, ys, h => by
    obtain ⟨v, t, e, h1, h2⟩ := h
    exact ⟨v, t, e, h1.monow m, KD.monow m h2⟩
theorem MRep.monow (m : Mw α S α' S') : ∀ {mo : MO} {o : HO}, MRep K α S mo o → MRep K α' S' mo o
  | .lst ds, o, h => by obtain ⟨xs, e, h⟩ := h; exact ⟨xs, e, h.monow m⟩
  | .dK kvs, o, h => by obtain ⟨xs, e, h, ko⟩ := h; exact ⟨xs, e, h.monow m, ko⟩
  | .dT kvs, o, h => by obtain ⟨xs, e, h, ko⟩ := h; exact ⟨xs, e, h.monow m, ko⟩
  | .ins C fs, o, h => by obtain ⟨dx, xs, e, h⟩ := h; exact ⟨dx, xs, e, h.monow m⟩
  | .lck mo, o, h => by obtain ⟨ob, u, e, h⟩ := h; exact ⟨ob, u, e, MRep.monow m h⟩
  | .gone, o, h => h
theorem KD.mono (m : Mo α S α' S') {kvs : List (κ × D)} {ys : List (κ' × V)} (h : KD K α S f kvs ys) : KD K α' S' f kvs ys := h.monow m.w
theorem MRep.mono (m : Mo α S α' S') {mo : MO} {o : HO} (h : MRep K α S mo o) : MRep K α' S' mo o := h.monow m.w
theorem MRep.ne_frz {mo : MO} {o u : HO} {ob : Obj} (h : MRep K α S mo o) (g : isLive mo = true) : o ≠ .frz ob u := by
  intro z
  subst z
  cases mo with
  | lst ds => obtain ⟨xs, e, _⟩ := h; cases e
  | dK ds => obtain ⟨xs, e, _⟩ := h; cases e
  | dT ds => obtain ⟨xs, e, _⟩ := h; cases e
  | ins C fs => obtain ⟨dx, xs, e, _⟩ := h; cases e
  | lck m => cases g
  | gone => cases g
end

/-- the state -/
structure Sat (K : PySem.W.Frag) (α : Led) (μ : Mu) (H : Hp) : Prop where
  len : α.ad.length = μ.length
  hid : ∀ a ∈ α.hid, ∃ o, H a = some o
  apart : ∀ (k : Nat) (a : Addr) (m : MO), α.ad[k]? = some a → μ[k]? = some m → isGone m = false → a ∉ α.hid
  inj : ∀ (i j : Nat) (a : Addr) (m n : MO), α.ad[i]? = some a → α.ad[j]? = some a → μ[i]? = some m → μ[j]? = some n → isGone m = false → isGone n = false → i = j
  obj : ∀ (k : Nat) (a : Addr) (m : MO), α.ad[k]? = some a → μ[k]? = some m → isGone m = false → ∃ o, H a = some o ∧ MRep K α (stb α μ H) m o
section
variable {K : PySem.W.Frag} {α : Led} {μ : Mu} {H : Hp} {S : Stb} {p a : Addr} {o : HO} {k : Nat} {m : MO}
theorem Sat.fresh (s : Sat K α μ H) (n : H p = none) : p ∉ live α.ad μ := fun h => by
  obtain ⟨k, m, h1, h2, h3⟩ := mem_live.mp h
  obtain ⟨o, h4, _⟩ := s.obj k p m h1 h2 (isGone_of h3)
  rw [n] at h4
  cases h4
theorem Sat.nohid (s : Sat K α μ H) (n : H p = none) : p ∉ α.hid := fun h => by
  obtain ⟨o, e⟩ := s.hid p h
  rw [n] at e
  cases e
theorem Sat.there (s : Sat K α μ H) (h2 : μ[k]? = some m) : ∃ a, α.ad[k]? = some a := by
  have hk : k < α.ad.length := by
    rw [s.len]
    exact (List.getElem?_eq_some_iff.mp h2).1
  exact ⟨_, List.getElem?_eq_getElem hk⟩
/-- a new object that is not in the ledger -/
theorem Sat.news (s : Sat K α μ H) (n : H p = none) : Sat K α μ (upd H p o) ∧ Mo α (stb α μ H) α (stb α μ (upd H p o)) ∧ stb α μ (upd H p o) p = some (true, o) := by
  have mo : Mo α (stb α μ H) α (stb α μ (upd H p o)) := ⟨fun _ _ h => h, fun b u h => by
    obtain ⟨c, u⟩ := u
    obtain ⟨h1, h2, rfl⟩ := stb_some h
    exact stb_of (by rw [upd_ne (ne_of_none h1 n)]; exact h1) h2, rfl⟩
  refine ⟨⟨s.len, fun a ha => ?_, s.apart, s.inj, fun k a m h1 h2 h3 => ?_⟩, mo, ?_⟩
  · obtain ⟨u, e⟩ := s.hid a ha
    exact ⟨u, by rw [upd_ne (ne_of_none e n)]; exact e⟩
  · obtain ⟨u, h4, h5⟩ := s.obj k a m h1 h2 h3
    exact ⟨u, by rw [upd_ne (ne_of_none h4 n)]; exact h4, h5.mono mo⟩
  · rw [stb_of upd_same (s.fresh n), decide_eq_true (s.nohid n)]
theorem live_snoc : ∀ {α : List Addr} {μ : Mu} (_ : α.length = μ.length) {p : Addr} {m : MO}, live (α ++ [p]) (μ ++ [m]) = live α μ ++ (if isLive m then [p] else [])
  | [], [], _, p, m => by
    show (if isLive m then p :: live [] [] else live [] []) = _
    split <;> simp [live]
  | a :: α, b :: μ, h, p, m => by
    have ih := live_snoc (α := α) (μ := μ) (by simpa using h) (p := p) (m := m)
    show (if isLive b then a :: live (α ++ [p]) (μ ++ [m]) else live (α ++ [p]) (μ ++ [m])) = _
    rw [ih]
    show _ = (if isLive b then a :: live α μ else live α μ) ++ _
    split <;> rfl
  | [], _ :: _, h, _, _ => by simp at h
  | _ :: _, [], h, _, _ => by simp at h
/-- a new mutable object -/
theorem Sat.alloc (s : Sat K α μ H) (n : H p = none) (r : MRep K α (stb α μ H) m o) : Sat K (α.push p) (μ ++ [m]) (upd H p o) ∧ Mo α (stb α μ H) (α.push p) (stb (α.push p) (μ ++ [m]) (upd H p o)) ∧ (α.push p).ad[μ.length]? = some p := by
  have hpre : ∀ (k : Nat) (a : Addr), α.ad[k]? = some a → (α.push p).ad[k]? = some a := fun k a h => by
    show (α.ad ++ [p])[k]? = some a
    rw [List.getElem?_append_left (List.getElem?_eq_some_iff.mp h).1]
    exact h
  have nl : ∀ b u, H b = some u → b ∉ live α.ad μ → b ∉ live (α.push p).ad (μ ++ [m]) := fun b u hb h1 h2 => by
    have h2' : b ∈ live (α.ad ++ [p]) (μ ++ [m]) := h2
    rw [live_snoc s.len] at h2'
    rcases List.mem_append.mp h2' with h2 | h2
    · exact h1 h2
    · split at h2
      · rw [List.mem_singleton.mp h2, n] at hb
        cases hb
      · cases h2
  have mo : Mo α (stb α μ H) (α.push p) (stb (α.push p) (μ ++ [m]) (upd H p o)) := ⟨hpre, fun b u h => by
    obtain ⟨c, u⟩ := u
    obtain ⟨h1, h2, rfl⟩ := stb_some h
    exact stb_of (by rw [upd_ne (ne_of_none h1 n)]; exact h1) (nl b u h1 h2), rfl⟩
  have new : ∀ (k : Nat) (a : Addr) (m' : MO), (α.push p).ad[k]? = some a → (μ ++ [m])[k]? = some m' → isGone m' = false → (α.ad[k]? = some a ∧ μ[k]? = some m') ∨ (k = α.ad.length ∧ a = p ∧ m' = m) := fun k a m' h1 h2 h3 => by
    have h1 : (α.ad ++ [p])[k]? = some a := h1
    by_cases hk : k < α.ad.length
    · rw [List.getElem?_append_left hk] at h1
      rw [List.getElem?_append_left (by rw [← s.len]; exact hk)] at h2
      exact .inl ⟨h1, h2⟩
    · have hk' : k = α.ad.length := by
        have := (List.getElem?_eq_some_iff.mp h1).1
        rw [List.length_append, List.length_singleton] at this
        omega
      subst hk'
      rw [List.getElem?_concat_length] at h1
      rw [s.len, List.getElem?_concat_length] at h2
      exact .inr ⟨rfl, (Option.some.inj h1).symm, (Option.some.inj h2).symm⟩
  refine ⟨⟨by show (α.ad ++ [p]).length = _; rw [List.length_append, List.length_append, s.len]; rfl, fun a ha => ?_, fun k a m' h1 h2 h3 => ?_, fun i j a m1 m2 h1 h2 h3 h4 g1 g2 => ?_, fun k a m' h1 h2 h3 => ?_⟩, mo, by show (α.ad ++ [p])[μ.length]? = some p; rw [← s.len, List.getElem?_concat_length]⟩
  · obtain ⟨u, e⟩ := s.hid a ha
    exact ⟨u, by rw [upd_ne (ne_of_none e n)]; exact e⟩
  · rcases new k a m' h1 h2 h3 with ⟨q1, q2⟩ | ⟨q1, q2, q3⟩
    · exact s.apart k a m' q1 q2 h3
    · rw [q2]; exact s.nohid n
  · rcases new i a m1 h1 h3 g1 with ⟨q1, q2⟩ | ⟨q1, q2, q3⟩
    · rcases new j a m2 h2 h4 g2 with ⟨r1, r2⟩ | ⟨r1, r2, r3⟩
      · exact s.inj i j a m1 m2 q1 r1 q2 r2 g1 g2
      · obtain ⟨u, h5, _⟩ := s.obj i a m1 q1 q2 g1
        rw [r2, n] at h5
        cases h5
    · rcases new j a m2 h2 h4 g2 with ⟨r1, r2⟩ | ⟨r1, r2, r3⟩
      · obtain ⟨u, h5, _⟩ := s.obj j a m2 r1 r2 g2
        rw [q2, n] at h5
        cases h5
      · rw [q1, r1]
  · rcases new k a m' h1 h2 h3 with ⟨q1, q2⟩ | ⟨q1, q2, q3⟩
    · obtain ⟨u, h4, h5⟩ := s.obj k a m' q1 q2 h3
      exact ⟨u, by rw [upd_ne (ne_of_none h4 n)]; exact h4, h5.mono mo⟩
    · subst q2; subst q3
      exact ⟨o, upd_same, r.mono mo⟩
theorem live_set : ∀ {α : List Addr} {μ : Mu} {k : Nat} {m m' : MO}, μ[k]? = some m → isLive m = isLive m' → live α (μ.set k m') = live α μ
  | [], μ, k, m, m', h, g => by simp [live]
  | a :: α, [], k, m, m', h, g => by simp at h
  | a :: α, b :: μ, 0, m, m', h, g => by
    have e : b = m := Option.some.inj h
    subst e
    show (if isLive m' then a :: live α μ else live α μ) = (if isLive b then a :: live α μ else live α μ)
    rw [g]
  | a :: α, b :: μ, k + 1, m, m', h, g => by
    have ih := live_set (α := α) (μ := μ) (k := k) (m := m) (m' := m') h g
    show (if isLive b then a :: live α (μ.set k m') else live α (μ.set k m')) = (if isLive b then a :: live α μ else live α μ)
    rw [ih]
theorem set_old {μ : Mu} {k i : Nat} {m m' n : MO} (hm : μ[k]? = some m) (h : (μ.set k m')[i]? = some n) : (i ≠ k ∧ μ[i]? = some n) ∨ (i = k ∧ n = m') := by
  by_cases e : k = i
  · subst e
    rw [List.getElem?_set_self (List.getElem?_eq_some_iff.mp hm).1] at h
    exact .inr ⟨rfl, (Option.some.inj h).symm⟩
  · rw [List.getElem?_set_ne e] at h
    exact .inl ⟨fun z => e z.symm, h⟩
/-- one entry turns into another, at its own address -/
theorem Sat.turn {m' : MO} {u : HO} (s : Sat K α μ H) (hk : α.ad[k]? = some a) (hm : μ[k]? = some m) (g : isGone m = false) (hr : MRep K α (stb α (μ.set k m') (upd H a u)) m' u) (mw : Mw α (stb α μ H) α (stb α (μ.set k m') (upd H a u))) : Sat K α (μ.set k m') (upd H a u) := by
  refine ⟨by rw [List.length_set]; exact s.len, fun b hb => ?_, fun i b n h1 h2 h3 => ?_, fun i j b m1 m2 h1 h2 h3 h4 g1 g2 => ?_, fun i b n h1 h2 h3 => ?_⟩
  · obtain ⟨w, e⟩ := s.hid b hb
    by_cases q : b = a
    · rw [q]; exact ⟨_, upd_same⟩
    · exact ⟨w, by rw [upd_ne q]; exact e⟩
  · rcases set_old hm h2 with ⟨e, q⟩ | ⟨e, q⟩
    · exact s.apart i b n h1 q h3
    · subst e; exact s.apart i b m h1 hm g
  · rcases set_old hm h3 with ⟨e1, q1⟩ | ⟨e1, q1⟩
    · rcases set_old hm h4 with ⟨e2, q2⟩ | ⟨e2, q2⟩
      · exact s.inj i j b m1 m2 h1 h2 q1 q2 g1 g2
      · subst e2; exact s.inj i j b m1 m h1 h2 q1 hm g1 g
    · rcases set_old hm h4 with ⟨e2, q2⟩ | ⟨e2, q2⟩
      · subst e1; exact s.inj i j b m m2 h1 h2 hm q2 g g2
      · rw [e1, e2]
  · rcases set_old hm h2 with ⟨e, q⟩ | ⟨e, q⟩
    · obtain ⟨w, h4, h5⟩ := s.obj i b n h1 q h3
      refine ⟨w, ?_, h5.monow mw⟩
      rw [upd_ne fun z => e (s.inj k i a m n hk (by rw [← z]; exact h1) hm q g h3).symm]
      exact h4
    · subst e
      rw [hk] at h1
      cases h1
      rw [q]
      exact ⟨u, upd_same, hr⟩
/-- a mutable object changes -/
theorem Sat.write {m' : MO} (s : Sat K α μ H) (hk : α.ad[k]? = some a) (hm : μ[k]? = some m) (g : isLive m = true) (g' : isLive m' = true) (r : MRep K α (stb α μ H) m' o) :
    Sat K α (μ.set k m') (upd H a o) ∧ Mo α (stb α μ H) α (stb α (μ.set k m') (upd H a o)) := by
  have hl : a ∈ live α.ad μ := mem_live.mpr ⟨k, m, hk, hm, g⟩
  have mo : Mo α (stb α μ H) α (stb α (μ.set k m') (upd H a o)) := ⟨fun _ _ h => h, fun b u h => by
    obtain ⟨c, u⟩ := u
    obtain ⟨h1, h2, rfl⟩ := stb_some h
    refine stb_of ?_ (by rw [live_set hm (g.trans g'.symm)]; exact h2)
    rw [upd_ne fun e => h2 (by rw [e]; exact hl)]
    exact h1, rfl⟩
  exact ⟨s.turn hk hm (isGone_of g) (r.mono mo) mo.w, mo⟩
/-- .. is locked -/
theorem Sat.lock {ob : Obj} (s : Sat K α μ H) (hk : α.ad[k]? = some a) (hm : μ[k]? = some m) (g : isLive m = true) (h0 : H a = some o) (r : MRep K α (stb α μ H) m o) :
    Sat K α (μ.set k (.lck m)) (upd H a (.frz ob o)) ∧ Mo α (stb α μ H) α (stb α (μ.set k (.lck m)) (upd H a (.frz ob o))) ∧ stb α (μ.set k (.lck m)) (upd H a (.frz ob o)) a = some (true, .frz ob o) := by
  have hl : a ∈ live α.ad μ := mem_live.mpr ⟨k, m, hk, hm, g⟩
  have sub : ∀ b, b ∈ live α.ad (μ.set k (.lck m)) → b ∈ live α.ad μ ∧ b ≠ a := fun b hb => by
    obtain ⟨i, n, h1, h2, h3⟩ := mem_live.mp hb
    rcases set_old hm h2 with ⟨e, q⟩ | ⟨e, q⟩
    · exact ⟨mem_live.mpr ⟨i, n, h1, q, h3⟩, fun z => e (s.inj i k a n m (by rw [← z]; exact h1) hk q hm (isGone_of h3) (isGone_of g))⟩
    · rw [q] at h3; cases h3
  have mo : Mo α (stb α μ H) α (stb α (μ.set k (.lck m)) (upd H a (.frz ob o))) := ⟨fun _ _ h => h, fun b u h => by
    obtain ⟨c, u⟩ := u
    obtain ⟨h1, h2, rfl⟩ := stb_some h
    refine stb_of ?_ fun z => h2 (sub b z).1
    rw [upd_ne fun e => h2 (by rw [e]; exact hl)]
    exact h1, rfl⟩
  refine ⟨s.turn hk hm (isGone_of g) ⟨ob, o, rfl, r.mono mo⟩ mo.w, mo, ?_⟩
  rw [stb_of upd_same fun z => (sub a z).2 rfl, decide_eq_true (s.apart k a m hk hm (isGone_of g))]
/-- .. and free again -/
theorem Sat.unlock {ob : Obj} (s : Sat K α μ H) (hk : α.ad[k]? = some a) (hm : μ[k]? = some (.lck m)) (g : isLive m = true) (h0 : H a = some (.frz ob o)) (hn : ∀ xs, o ≠ .lst xs) :
    Sat K α (μ.set k m) (upd H a o) ∧ Mw α (stb α μ H) α (stb α (μ.set k m) (upd H a o)) ∧ (∀ b u, b ≠ a → stb α μ H b = some u → stb α (μ.set k m) (upd H a o) b = some u) := by
  have r : MRep K α (stb α μ H) m o := by
    obtain ⟨o', h1, ob', u, e, h2⟩ := s.obj k a _ hk hm rfl
    rw [h0] at h1
    cases h1
    cases e
    exact h2
  have sub : ∀ b, b ∈ live α.ad (μ.set k m) → b ∈ live α.ad μ ∨ b = a := fun b hb => by
    obtain ⟨i, n, h1, h2, h3⟩ := mem_live.mp hb
    rcases set_old hm h2 with ⟨e, q⟩ | ⟨e, q⟩
    · exact .inl (mem_live.mpr ⟨i, n, h1, q, h3⟩)
    · subst e
      rw [hk] at h1
      exact .inr (Option.some.inj h1).symm
  have ex : ∀ b u, b ≠ a → stb α μ H b = some u → stb α (μ.set k m) (upd H a o) b = some u := fun b u nb h => by
    obtain ⟨c, u⟩ := u
    obtain ⟨h1, h2, rfl⟩ := stb_some h
    refine stb_of (by rw [upd_ne nb]; exact h1) fun z => ?_
    rcases sub b z with z | z
    · exact h2 z
    · exact nb z
  have mw : Mw α (stb α μ H) α (stb α (μ.set k m) (upd H a o)) := ⟨fun _ _ h => h, fun b u lu h => by
    refine ex b _ (fun z => ?_) h
    have := (stb_some h).1
    rw [z, h0] at this
    cases this
    cases o with
    | lst xs => exact hn xs rfl
    | _ => cases lu⟩
  exact ⟨s.turn hk hm rfl (r.monow mw) mw, mw, ex⟩
theorem live_gone : ∀ {α : List Addr} {μ : Mu} {k : Nat} {b : Addr}, b ∈ live α (μ.set k .gone) → b ∈ live α μ := fun {α μ k b} h => by
  obtain ⟨i, m, h1, h2, h3⟩ := mem_live.mp h
  by_cases e : k = i
  · subst e
    by_cases hk : k < μ.length
    · rw [List.getElem?_set_self hk] at h2
      cases h2
      cases h3
    · rw [List.getElem?_eq_none (by rw [List.length_set]; omega)] at h2
      cases h2
  · rw [List.getElem?_set_ne e] at h2
    exact mem_live.mpr ⟨i, m, h1, h2, h3⟩
/-- a mutable object goes over to what stays -/
theorem Sat.freeze (s : Sat K α μ H) (k : Nat) : Sat K α (μ.set k .gone) H ∧ Mo α (stb α μ H) α (stb α (μ.set k .gone) H) := by
  have mo : Mo α (stb α μ H) α (stb α (μ.set k .gone) H) := ⟨fun _ _ h => h, fun b u h => by
    obtain ⟨c, u⟩ := u
    obtain ⟨h1, h2, rfl⟩ := stb_some h
    exact stb_of h1 fun z => h2 (live_gone z), rfl⟩
  have old : ∀ (i : Nat) (n : MO), (μ.set k .gone)[i]? = some n → isGone n = false → μ[i]? = some n := fun i n h h1 => by
    by_cases e : k = i
    · subst e
      by_cases hk : k < μ.length
      · rw [List.getElem?_set_self hk] at h
        cases h
        cases h1
      · rw [List.getElem?_eq_none (by rw [List.length_set]; omega)] at h
        cases h
    · rw [List.getElem?_set_ne e] at h
      exact h
  refine ⟨⟨by rw [List.length_set]; exact s.len, s.hid, fun i b n h1 h2 h3 => s.apart i b n h1 (old i n h2 h3) h3, fun i j b m1 m2 h1 h2 h3 h4 g1 g2 => s.inj i j b m1 m2 h1 h2 (old i m1 h3 g1) (old j m2 h4 g2) g1 g2, fun i b n h1 h2 h3 => ?_⟩, mo⟩
  obtain ⟨u, h4, h5⟩ := s.obj i b n h1 (old i n h2 h3) h3
  exact ⟨u, h4, h5.mono mo⟩
theorem Sat.at_gone (s : Sat K α μ H) (hm : μ[k]? = some m) (g : isLive m = true) (hk : α.ad[k]? = some a) (h : H a = some o) : stb α (μ.set k .gone) H a = some (true, o) := by
  rw [stb_of h fun z => ?_, decide_eq_true (s.apart k a m hk hm (isGone_of g))]
  obtain ⟨i, n, h3, h4, h5⟩ := mem_live.mp z
  by_cases e : k = i
  · subst e
    rw [List.getElem?_set_self (List.getElem?_eq_some_iff.mp hm).1] at h4
    cases h4
    cases h5
  · rw [List.getElem?_set_ne e] at h4
    exact e (s.inj k i a _ n hk h3 hm h4 (isGone_of g) (isGone_of h5))
theorem Sat.frozen {ds : List D} (s : Sat K α μ H) (hm : μ[k]? = some (.lst ds)) {v : V} (h : Den K α (stb α μ H) (.own k) v) : Den K α (stb α (μ.set k .gone) H) (.lst ds) v := by
  obtain ⟨a, hk, rfl⟩ := h.own_inv
  obtain ⟨o, h1, xs, rfl, h2⟩ := s.obj k a _ hk hm rfl
  obtain ⟨_, mo⟩ := s.freeze k
  exact .lst (s.at_gone hm rfl hk h1) (h2.mono mo)
theorem KD.zip {C : Addr} : ∀ {fs : List (Str × D)} {ys : List (Str × V)}, KD K α S id fs ys → ∃ xs, ys = (fs.map (·.1)).zip xs ∧ DenL K α S (fs.map (·.2)) xs
  | [], ys, h => ⟨[], h, .nil⟩
  | p :: r, ys, h => by
    obtain ⟨v, t, e, h1, h2⟩ := h
    obtain ⟨xs, e2, h3⟩ := KD.zip (C := C) h2
    exact ⟨v :: xs, by rw [e, e2]; rfl, .cons h1 h3⟩
theorem Sat.frozenI {C : Addr} {fs : List (Str × D)} (s : Sat K α μ H) (hm : μ[k]? = some (.ins C fs)) {v : V} (h : Den K α (stb α μ H) (.own k) v) : Den K α (stb α (μ.set k .gone) H) (.obj C (fs.map (·.1)) (fs.map (·.2))) v := by
  obtain ⟨a, hk, rfl⟩ := h.own_inv
  obtain ⟨o, h1, dx, ys, rfl, h2⟩ := s.obj k a _ hk hm rfl
  obtain ⟨_, mo⟩ := s.freeze k
  obtain ⟨xs, rfl, h3⟩ := KD.zip (C := C) h2
  exact .obj (s.at_gone hm rfl hk h1) (by rw [List.length_map, List.length_map]) (h3.mono mo)
/-- hiding and showing what no handle leads to -/
def Led.hide (α : Led) (p : Addr) : Led := ⟨α.ad, p :: α.hid⟩
theorem Sat.hide (s : Sat K α μ H) (n : H p = none) : Sat K (α.hide p) μ (upd H p o) ∧ (∀ b u, stb α μ H b = some u → stb (α.hide p) μ (upd H p o) b = some u) ∧ stb (α.hide p) μ (upd H p o) p = some (false, o) := by
  have ex : ∀ b u, stb α μ H b = some u → stb (α.hide p) μ (upd H p o) b = some u := fun b u h => by
    obtain ⟨c, u⟩ := u
    obtain ⟨h1, h2, rfl⟩ := stb_some h
    have nb := ne_of_none h1 n
    rw [stb_of (α := α.hide p) (by rw [upd_ne nb]; exact h1) h2]
    have : (decide (b ∉ (α.hide p).hid)) = decide (b ∉ α.hid) := by
      have e : (b ∉ (α.hide p).hid) ↔ (b ∉ α.hid) := by
        show b ∉ p :: α.hid ↔ _
        rw [List.mem_cons, not_or]
        exact ⟨fun z => z.2, fun z => ⟨nb, z⟩⟩
      exact decide_eq_decide.mpr e
    rw [this]
  refine ⟨⟨s.len, fun a ha => ?_, fun k a m h1 h2 h3 => ?_, s.inj, fun k a m h1 h2 h3 => ?_⟩, ex, ?_⟩
  · rcases List.mem_cons.mp ha with z | z
    · rw [z]; exact ⟨_, upd_same⟩
    · obtain ⟨u, e⟩ := s.hid a z
      exact ⟨u, by rw [upd_ne (ne_of_none e n)]; exact e⟩
  · intro z
    rcases List.mem_cons.mp z with z | z
    · obtain ⟨u, e, _⟩ := s.obj k a m h1 h2 h3
      rw [z, n] at e
      cases e
    · exact s.apart k a m h1 h2 h3 z
  · obtain ⟨u, h4, h5⟩ := s.obj k a m h1 h2 h3
    exact ⟨u, by rw [upd_ne (ne_of_none h4 n)]; exact h4, MRep.monow (α := α) (α' := α.hide p) (S := stb α μ H) ⟨fun _ _ h => h, fun b w _ h => ex b _ h⟩ h5⟩
  · rw [stb_of (α := α.hide p) upd_same (s.fresh n), decide_eq_false (fun z => z (List.mem_cons_self))]
/-- the hidden object changes -/
theorem Sat.hidden {u : HO} {β : Led} (s : Sat K β μ H) (e : β = (⟨β.ad, p :: α.hid⟩ : Led)) : Sat K β μ (upd H p u) ∧ (∀ b w, b ≠ p → stb β μ H b = some w → stb β μ (upd H p u) b = some w) ∧ Mw β (stb β μ H) β (stb β μ (upd H p u)) ∧ stb β μ (upd H p u) p = some (false, u) := by
  have hp : p ∈ β.hid := by rw [e]; exact List.mem_cons_self
  have ex : ∀ b w, b ≠ p → stb β μ H b = some w → stb β μ (upd H p u) b = some w := fun b w nb h => by
    obtain ⟨c, w⟩ := w
    obtain ⟨h1, h2, rfl⟩ := stb_some h
    exact stb_of (by rw [upd_ne nb]; exact h1) h2
  have mw : Mw β (stb β μ H) β (stb β μ (upd H p u)) := ⟨fun _ _ h => h, fun b w _ h => ex b _ (fun z => by
    have := (stb_some h).2.2
    rw [z] at this
    exact of_decide_eq_true this.symm hp) h⟩
  have nl : p ∉ live β.ad μ := fun z => by
    obtain ⟨i, n, z1, z2, z3⟩ := mem_live.mp z
    exact s.apart i p n z1 z2 (isGone_of z3) hp
  refine ⟨⟨s.len, fun a ha => ?_, s.apart, s.inj, fun k a m h1 h2 h3 => ?_⟩, ex, mw, ?_⟩
  · obtain ⟨w, h⟩ := s.hid a ha
    by_cases q : a = p
    · rw [q]; exact ⟨_, upd_same⟩
    · exact ⟨w, by rw [upd_ne q]; exact h⟩
  · obtain ⟨w, h4, h5⟩ := s.obj k a m h1 h2 h3
    refine ⟨w, ?_, h5.monow mw⟩
    rw [upd_ne fun z => s.apart k a m h1 h2 h3 (by rw [z]; exact hp)]
    exact h4
  · rw [stb_of upd_same nl, decide_eq_false (fun z => z hp)]
/-- .. becomes a mutable object -/
theorem Sat.adopt {β : Led} {xs : List V} {ds : List D} (s : Sat K β μ H) (e : β = (⟨β.ad, p :: α.hid⟩ : Led)) (h : H p = some (.lst xs)) (r : DenL K β (stb β μ H) ds xs) (np : p ∉ α.hid) :
    Sat K ⟨β.ad ++ [p], α.hid⟩ (μ ++ [.lst ds]) H ∧ (∀ b w, b ≠ p → stb β μ H b = some w → stb ⟨β.ad ++ [p], α.hid⟩ (μ ++ [.lst ds]) H b = some w) ∧ (β.ad ++ [p])[μ.length]? = some p := by
  have hp : p ∈ β.hid := by rw [e]; exact List.mem_cons_self
  have hs : ∀ a, a ∈ α.hid → a ∈ β.hid := fun a ha => by rw [e]; exact List.mem_cons_of_mem _ ha
  have ex : ∀ b w, b ≠ p → stb β μ H b = some w → stb ⟨β.ad ++ [p], α.hid⟩ (μ ++ [.lst ds]) H b = some w := fun b w nb h => by
    obtain ⟨c, w⟩ := w
    obtain ⟨h1, h2, rfl⟩ := stb_some h
    rw [stb_of (α := ⟨β.ad ++ [p], α.hid⟩) h1 fun z => ?_]
    · have : (decide (b ∉ (⟨β.ad ++ [p], α.hid⟩ : Led).hid)) = decide (b ∉ β.hid) := by
        refine decide_eq_decide.mpr ⟨fun z y => ?_, fun z y => z (hs b y)⟩
        rw [e] at y
        rcases List.mem_cons.mp y with y | y
        · exact nb y
        · exact z y
      rw [this]
    · have z' : b ∈ live (β.ad ++ [p]) (μ ++ [.lst ds]) := z
      rw [live_snoc s.len] at z'
      rcases List.mem_append.mp z' with z | z
      · exact h2 z
      · exact nb (List.mem_singleton.mp z)
  have hpre : ∀ (k : Nat) (a : Addr), β.ad[k]? = some a → (β.ad ++ [p])[k]? = some a := fun k a h => by
    rw [List.getElem?_append_left (List.getElem?_eq_some_iff.mp h).1]
    exact h
  have mw : Mw β (stb β μ H) ⟨β.ad ++ [p], α.hid⟩ (stb ⟨β.ad ++ [p], α.hid⟩ (μ ++ [.lst ds]) H) := ⟨hpre, fun b w _ h => ex b _ (fun z => by
    have := (stb_some h).2.2
    rw [z] at this
    exact of_decide_eq_true this.symm hp) h⟩
  have new : ∀ (k : Nat) (a : Addr) (m' : MO), (β.ad ++ [p])[k]? = some a → (μ ++ [MO.lst ds])[k]? = some m' → (β.ad[k]? = some a ∧ μ[k]? = some m') ∨ (k = β.ad.length ∧ a = p ∧ m' = .lst ds) := fun k a m' h1 h2 => by
    by_cases hk : k < β.ad.length
    · rw [List.getElem?_append_left hk] at h1
      rw [List.getElem?_append_left (by rw [← s.len]; exact hk)] at h2
      exact .inl ⟨h1, h2⟩
    · have hk' : k = β.ad.length := by
        have := (List.getElem?_eq_some_iff.mp h1).1
        rw [List.length_append, List.length_singleton] at this
        omega
      subst hk'
      rw [List.getElem?_concat_length] at h1
      rw [s.len, List.getElem?_concat_length] at h2
      exact .inr ⟨rfl, (Option.some.inj h1).symm, (Option.some.inj h2).symm⟩
  refine ⟨⟨by show (β.ad ++ [p]).length = _; rw [List.length_append, List.length_append, s.len]; rfl, fun a ha => s.hid a (hs a ha), fun k a m h1 h2 h3 z => ?_, fun i j a m1 m2 h1 h2 h3 h4 g1 g2 => ?_, fun k a m h1 h2 h3 => ?_⟩, ex, by rw [← s.len, List.getElem?_concat_length]⟩
  · rcases new k a m h1 h2 with ⟨q1, q2⟩ | ⟨q1, q2, q3⟩
    · exact s.apart k a m q1 q2 h3 (hs a z)
    · rw [q2] at z; exact np z
  · rcases new i a m1 h1 h3 with ⟨q1, q2⟩ | ⟨q1, q2, q3⟩
    · rcases new j a m2 h2 h4 with ⟨r1, r2⟩ | ⟨r1, r2, r3⟩
      · exact s.inj i j a m1 m2 q1 r1 q2 r2 g1 g2
      · exact absurd hp (by rw [← r2]; exact s.apart i a m1 q1 q2 g1)
    · rcases new j a m2 h2 h4 with ⟨r1, r2⟩ | ⟨r1, r2, r3⟩
      · exact absurd hp (by rw [← q2]; exact s.apart j a m2 r1 r2 g2)
      · rw [q1, r1]
  · rcases new k a m h1 h2 with ⟨q1, q2⟩ | ⟨q1, q2, q3⟩
    · obtain ⟨u, h4, h5⟩ := s.obj k a m q1 q2 h3
      exact ⟨u, h4, h5.monow mw⟩
    · rw [q2, q3]
      exact ⟨_, h, xs, rfl, r.monow mw⟩
/-- .. is shown -/
theorem Sat.show_ {β : Led} {xs : List V} (s : Sat K β μ H) (e : β = (⟨β.ad, p :: α.hid⟩ : Led)) (h : H p = some o) (np : p ∉ α.hid) : Sat K ⟨β.ad, α.hid⟩ μ H ∧ (∀ b w, b ≠ p → stb β μ H b = some w → stb ⟨β.ad, α.hid⟩ μ H b = some w) ∧ Mw β (stb β μ H) ⟨β.ad, α.hid⟩ (stb ⟨β.ad, α.hid⟩ μ H) ∧ stb ⟨β.ad, α.hid⟩ μ H p = some (true, o) := by
  have hp : p ∈ β.hid := by rw [e]; exact List.mem_cons_self
  have hs : ∀ a, a ∈ α.hid → a ∈ β.hid := fun a ha => by rw [e]; exact List.mem_cons_of_mem _ ha
  have ex : ∀ b w, b ≠ p → stb β μ H b = some w → stb ⟨β.ad, α.hid⟩ μ H b = some w := fun b w nb h => by
    obtain ⟨c, w⟩ := w
    obtain ⟨h1, h2, rfl⟩ := stb_some h
    rw [stb_of (α := ⟨β.ad, α.hid⟩) h1 h2]
    have : (decide (b ∉ (⟨β.ad, α.hid⟩ : Led).hid)) = decide (b ∉ β.hid) := by
      refine decide_eq_decide.mpr ⟨fun z y => ?_, fun z y => z (hs b y)⟩
      rw [e] at y
      rcases List.mem_cons.mp y with y | y
      · exact nb y
      · exact z y
    rw [this]
  have mw : Mw β (stb β μ H) ⟨β.ad, α.hid⟩ (stb ⟨β.ad, α.hid⟩ μ H) := ⟨fun _ _ h => h, fun b w _ h => ex b _ (fun z => by
    have := (stb_some h).2.2
    rw [z] at this
    exact of_decide_eq_true this.symm hp) h⟩
  have nl : p ∉ live β.ad μ := fun z => by
    obtain ⟨i, n, z1, z2, z3⟩ := mem_live.mp z
    exact s.apart i p n z1 z2 (isGone_of z3) hp
  refine ⟨⟨s.len, fun a ha => s.hid a (hs a ha), fun k a m h1 h2 h3 z => s.apart k a m h1 h2 h3 (hs a z), s.inj, fun k a m h1 h2 h3 => ?_⟩, ex, mw, ?_⟩
  · obtain ⟨w, h4, h5⟩ := s.obj k a m h1 h2 h3
    exact ⟨w, h4, h5.monow mw⟩
  · rw [stb_of (α := ⟨β.ad, α.hid⟩) h nl, decide_eq_true np]
end

/-! ### results -/
inductive Out (β : Type) where
  | ok (b : β) (μ : Mu) | exc (c : Value) (pl : Option (Str × D)) (μ : Mu) | bad
def Out.bind {β γ : Type} (o : Out β) (k : β → Mu → Out γ) : Out γ := match o with
  | .ok b μ => k b μ
  | .exc c pl μ => .exc c pl μ
  | .bad => .bad
theorem Out.bind_ok {β γ : Type} (b : β) (μ : Mu) (k : β → Mu → Out γ) : (Out.ok b μ).bind k = k b μ := rfl
theorem Out.bind_bad {β γ : Type} (k : β → Mu → Out γ) : (Out.bad : Out β).bind k = .bad := rfl
theorem Out.bind_exc {β γ : Type} (c : Value) (pl : Option (Str × D)) (μ : Mu) (k : β → Mu → Out γ) : (Out.exc c pl μ : Out β).bind k = .exc c pl μ := rfl
theorem Out.bind_assoc {β γ δ : Type} (o : Out β) (k : β → Mu → Out γ) (l : γ → Mu → Out δ) : (o.bind k).bind l = o.bind fun b μ => (k b μ).bind l := by cases o <;> rfl
theorem Out.bind_ok' {β : Type} (o : Out β) : (o.bind fun b μ => .ok b μ) = o := by cases o <;> rfl

def XOk (K : PySem.W.Frag) (E : XK) (c : Value) (pl : Option (Str × D)) (α : Led) (S : Stb) (H : Hp) : Prop := match pl with
  | none => E c none H
  | some (f, d) => ∀ (dd : Addr) (v : V), H dd = some (.xd [(f, v)]) → Den K α S d v → E c (some dd) H
def Meets {β : Type} (K : PySem.W.Frag) (E : XK) (α : Led) (S : Stb) (o : Out β) (R : β → Mu → Led → Hp → Prop) : Prop := match o with
  | .ok b μ => ∀ α' H', Sat K α' μ H' → Mo α S α' (stb α' μ H') → R b μ α' H'
  | .exc c pl μ => ∀ α' H', Sat K α' μ H' → Mo α S α' (stb α' μ H') → XOk K E c pl α' (stb α' μ H') H'
  | .bad => False
section
variable {β γ : Type} {K : PySem.W.Frag} {E : XK} {α α1 : Led} {S S1 : Stb} {o : Out β}
theorem Meets.mono {R R' : β → Mu → Led → Hp → Prop} (h : Meets K E α S o R) (k : ∀ b μ α' H', o = .ok b μ → Sat K α' μ H' → Mo α S α' (stb α' μ H') → R b μ α' H' → R' b μ α' H') : Meets K E α S o R' := by
  cases o with
  | ok b μ => exact fun α' H' s m => k b μ α' H' rfl s m (h α' H' s m)
  | exc c pl μ => exact h
  | bad => exact h
theorem Meets.rebase {R : β → Mu → Led → Hp → Prop} (m : Mo α S α1 S1) (h : Meets K E α S o R) : Meets K E α1 S1 o R := by
  cases o with
  | ok b μ => exact fun α' H' s m' => h α' H' s (m.trans m')
  | exc c pl μ => exact fun α' H' s m' => h α' H' s (m.trans m')
  | bad => exact h
theorem Meets.bind {k : β → Mu → Out γ} {R : γ → Mu → Led → Hp → Prop} (h : Meets K E α S (o.bind k) R) : Meets K E α S o (fun b μ α' H' => Meets K E α' (stb α' μ H') (k b μ) R) := by
  cases o with
  | ok b μ => exact fun α' H' s m => Meets.rebase m h
  | exc c pl μ => exact h
  | bad => exact h
theorem Meets.ok {b : β} {μ : Mu} {R : β → Mu → Led → Hp → Prop} {H : Hp} (h : Meets K E α S (.ok b μ) R) (s : Sat K α1 μ H) (m : Mo α S α1 (stb α1 μ H)) : R b μ α1 H := h α1 H s m
end

/-! ### locals -/
def Loc (K : PySem.W.Frag) (α : Led) (S : Stb) (σ : L2.St) (ρ : Env) : Prop := σ.length = ρ.length ∧ ∀ (i : Nat) (d : D), ρ[i]? = some (some d) → ∃ v, σ[i]? = some (some v) ∧ Den K α S d v
section
variable {K : PySem.W.Frag} {α α' : Led} {S S' : Stb} {σ : L2.St} {ρ : Env}
theorem Loc.mono (m : Mo α S α' S') (h : Loc K α S σ ρ) : Loc K α' S' σ ρ := ⟨h.1, fun i d e => by
  obtain ⟨v, h1, h2⟩ := h.2 i d e
  exact ⟨v, h1, h2.mono m⟩⟩
theorem Loc.set {d : D} {v : V} (h : Loc K α S σ ρ) (r : Den K α S d v) (i : Nat) : Loc K α S (σ.set i (some v)) (ρ.set i (some d)) := by
  refine ⟨by rw [List.length_set, List.length_set]; exact h.1, fun j e hj => ?_⟩
  by_cases q : i = j
  · subst q
    have hi : i < ρ.length := by
      have := (List.getElem?_eq_some_iff.mp hj).1
      rwa [List.length_set] at this
    rw [List.getElem?_set_self hi] at hj
    cases hj
    exact ⟨v, by rw [List.getElem?_set_self (by rw [h.1]; exact hi)], r⟩
  · rw [List.getElem?_set_ne q] at hj
    obtain ⟨w, h1, h2⟩ := h.2 j e hj
    exact ⟨w, by rw [List.getElem?_set_ne q]; exact h1, h2⟩
end
theorem getElem?_map' {α β : Type} (f : α → β) (l : List α) (i : Nat) : (l.map f)[i]? = (l[i]?).map f := by simp
theorem Loc.start {K : PySem.W.Frag} {α : Led} {S : Stb} {N : List Str} {ds : List D} {vs : List V} (h : DenL K α S ds vs) : Loc K α S (L2.start N vs) (ds.map some ++ List.replicate (N.length - ds.length) none) := by
  have hl := h.length
  refine ⟨?_, fun i d e => ?_⟩
  · unfold L2.start
    simp [hl]
  · by_cases hi : i < ds.length
    · rw [List.getElem?_append_left (by simpa using hi), getElem?_map', List.getElem?_eq_getElem hi] at e
      obtain ⟨v, h1, h2⟩ := h.get (List.getElem?_eq_getElem hi)
      have e' : some ds[i] = some d := Option.some.inj e
      cases e'
      refine ⟨v, ?_, h2⟩
      unfold L2.start
      rw [List.getElem?_append_left (by simpa [← hl] using hi), getElem?_map', h1]
      rfl
    · rw [List.getElem?_append_right (by simpa using hi)] at e
      have := List.mem_of_getElem? e
      have q := (List.mem_replicate.mp this).2
      cases q
end Dt

/-! Dt2: judgements over data; expressions, tests, operators. -/
namespace Dt
open PySem PySem.Spec PyProof.Rows L2

abbrev FE := Env → Mu → Out D
abbrev FT := Env → Mu → Out Bool
abbrev FA := Env → Mu → Out (List D)
abbrev FF := List D → Mu → Out D

def RD (K : PySem.W.Frag) (Q : VK) : D → Mu → Led → Hp → Prop := fun d μ α H => ∀ v, Den K α (stb α μ H) d v → Q v H
def RDL (K : PySem.W.Frag) (Q : List V → Hp → Prop) : List D → Mu → Led → Hp → Prop := fun ds μ α H => ∀ vs, DenL K α (stb α μ H) ds vs → Q vs H
def EvE (K : PySem.W.Frag) (E : XK) (t : TE) (f : FE) : Prop := ∀ (σ : L2.St) (H : Hp) (α : Led) (ρ : Env) (μ : Mu) (Q : VK), Sat K α μ H → Loc K α (stb α μ H) σ ρ → Meets K E α (stb α μ H) (f ρ μ) (RD K Q) → t σ H Q
def EvT (K : PySem.W.Frag) (E : XK) (t : TT) (f : FT) : Prop := ∀ (σ : L2.St) (H : Hp) (α : Led) (ρ : Env) (μ : Mu) (Q : Bool → Hp → Prop), Sat K α μ H → Loc K α (stb α μ H) σ ρ → Meets K E α (stb α μ H) (f ρ μ) (fun b _ _ H' => Q b H') → t σ H Q
def EvA (K : PySem.W.Frag) (E : XK) (t : TA) (f : FA) : Prop := ∀ (σ : L2.St) (H : Hp) (α : Led) (ρ : Env) (μ : Mu) (Q : List V → Hp → Prop), Sat K α μ H → Loc K α (stb α μ H) σ ρ → Meets K E α (stb α μ H) (f ρ μ) (RDL K Q) → t σ H Q
/-- operations by values -/
def Ev2 (K : PySem.W.Frag) (E : XK) (r : R2) (g : D → D → Mu → Out D) : Prop := ∀ (x y : V) (H : Hp) (α : Led) (dx dy : D) (μ : Mu) (Q : VK), Sat K α μ H → Den K α (stb α μ H) dx x → Den K α (stb α μ H) dy y → Meets K E α (stb α μ H) (g dx dy μ) (RD K Q) → r x y H Q
def Ev1 (K : PySem.W.Frag) (E : XK) (r : V → Hp → VK → Prop) (g : D → Mu → Out D) : Prop := ∀ (x : V) (H : Hp) (α : Led) (dx : D) (μ : Mu) (Q : VK), Sat K α μ H → Den K α (stb α μ H) dx x → Meets K E α (stb α μ H) (g dx μ) (RD K Q) → r x H Q
def EvC (K : PySem.W.Frag) (E : XK) (r : List V → Hp → VK → Prop) (g : FF) : Prop := ∀ (xs : List V) (H : Hp) (α : Led) (ds : List D) (μ : Mu) (Q : VK), Sat K α μ H → DenL K α (stb α μ H) ds xs → Meets K E α (stb α μ H) (g ds μ) (RD K Q) → r xs H Q
def EvM (K : PySem.W.Frag) (E : XK) (r : V → List V → Hp → VK → Prop) (g : D → FF) : Prop := ∀ (x : V) (xs : List V) (H : Hp) (α : Led) (dx : D) (ds : List D) (μ : Mu) (Q : VK), Sat K α μ H → Den K α (stb α μ H) dx x → DenL K α (stb α μ H) ds xs → Meets K E α (stb α μ H) (g dx ds μ) (RD K Q) → r x xs H Q

structure DE (X : Cx) (E : XK) (e : Expr) (f : FE) : Prop where
  ex : ∃ t, PE X e t ∧ EvE X.K E t f
structure DT (X : Cx) (E : XK) (e : Expr) (f : FT) : Prop where
  ex : ∃ t, PT X e t ∧ EvT X.K E t f
structure DW (X : Cx) (E : XK) (e : Expr) (f : FT) : Prop where
  ex : ∃ t, PW X e t ∧ EvT X.K E t f
structure DA (X : Cx) (E : XK) (es : List Expr) (f : FA) : Prop where
  ex : ∃ t, PA X es t ∧ EvA X.K E t f
structure D2 (X : Cx) (E : XK) (fop : Value → Value → Sem Value) (g : D → D → Mu → Out D) : Prop where
  ex : ∃ r, OpR X fop r ∧ Ev2 X.K E r g
structure DI2 (X : Cx) (E : XK) (g : D → D → Mu → Out D) : Prop where
  ex : ∃ r, IxR X r ∧ Ev2 X.K E r g
structure DC (X : Cx) (E : XK) (f : Value) (g : FF) : Prop where
  ex : ∃ r, CallR X f r ∧ EvC X.K E r g
structure DM (X : Cx) (E : XK) (id : String) (g : D → FF) : Prop where
  ex : ∃ r, MtR X id r ∧ EvM X.K E r g

/-! ### a new list, of either kind -/
def mkL (b : Bool) (ds : List D) (μ : Mu) : Out D := if b then .ok (.own μ.length) (μ ++ [.lst ds]) else .ok (.lst ds) μ
section
variable {K : PySem.W.Frag} {E : XK} {α α0 : Led} {μ : Mu} {H : Hp} {S : Stb}
theorem mkL_ok {b : Bool} {ds : List D} {xs : List V} {Q : VK} (s : Sat K α μ H) (r : DenL K α (stb α μ H) ds xs) (h : Meets K E α (stb α μ H) (mkL b ds μ) (RD K Q)) : ∀ p, H p = none → Q (.ref p) (upd H p (.lst xs)) := by
  intro p hp
  unfold mkL at h
  cases b with
  | true =>
    rw [if_pos rfl] at h
    obtain ⟨s1, m1, h1⟩ := s.alloc hp (m := .lst ds) (o := .lst xs) ⟨xs, rfl, r⟩
    exact h _ _ s1 m1 _ (.own h1)
  | false =>
    rw [if_neg Bool.false_ne_true] at h
    obtain ⟨s1, m1, w1⟩ := s.news hp (o := .lst xs)
    exact h _ _ s1 m1 _ (.lst w1 (r.mono m1))
theorem tup_ok {ds : List D} {xs : List V} {Q : VK} (s : Sat K α μ H) (r : DenL K α (stb α μ H) ds xs) (h : Meets K E α (stb α μ H) (.ok (.tup ds) μ) (RD K Q)) : ∀ p, H p = none → Q (.ref p) (upd H p (.tup xs)) := by
  intro p hp
  obtain ⟨s1, m1, w1⟩ := s.news hp (o := .tup xs)
  exact h _ _ s1 m1 _ (.tup w1 (r.mono m1))
/-- nothing new -/
theorem same_ok {d : D} {v : V} {Q : VK} (s : Sat K α μ H) (r : Den K α (stb α μ H) d v) (h : Meets K E α (stb α μ H) (.ok d μ) (RD K Q)) : Q v H := h _ _ s (Mo.refl _ _) _ r
end

/-! ### a list that is read -/
def moL : Option MO → Option (List D)
  | some (.lst ds) => some ds
  | _ => none
theorem moL_of : ∀ {o : Option MO} {ds : List D}, moL o = some ds → o = some (.lst ds)
  | some (.lst _), _, h => by rw [Option.some.inj h]
  | some (.dK _), _, h => by cases h
  | some (.dT _), _, h => by cases h
  | some (.ins _ _), _, h => by cases h
  | some (.lck _), _, h => by cases h
  | some .gone, _, h => by cases h
  | none, _, h => by cases h
def getL (d : D) (μ : Mu) : Option (List D) := match d with
  | .lst ds => some ds
  | .own k => moL μ[k]?
  | _ => none
theorem getL_lst (ds : List D) (μ : Mu) : getL (.lst ds) μ = some ds := rfl
section
variable {K : PySem.W.Frag} {α : Led} {μ : Mu} {H : Hp}
theorem own_at {k : Nat} {v : V} {m : MO} (s : Sat K α μ H) (r : Den K α (stb α μ H) (.own k) v) (hm : μ[k]? = some m) (g : isGone m = false) : ∃ a o, v = .ref a ∧ α.ad[k]? = some a ∧ H a = some o ∧ MRep K α (stb α μ H) m o := by
  obtain ⟨a, ha, rfl⟩ := r.own_inv
  obtain ⟨o, ho, hr⟩ := s.obj k a m ha hm g
  exact ⟨a, o, rfl, ha, ho, hr⟩
theorem getL_at {d : D} {v : V} {ds : List D} (e : getL d μ = some ds) (s : Sat K α μ H) (r : Den K α (stb α μ H) d v) : ∃ a xs, v = .ref a ∧ H a = some (.lst xs) ∧ DenL K α (stb α μ H) ds xs := by
  cases d with
  | lst es =>
    obtain rfl : es = ds := Option.some.inj e
    obtain ⟨a, xs, rfl, h1, h2⟩ := r.lst_inv
    exact ⟨a, xs, rfl, (stb_some h1).1, h2⟩
  | own k =>
    obtain ⟨a, o, rfl, h1, h2, xs, rfl, h3⟩ := own_at s r (moL_of e) rfl
    exact ⟨a, xs, rfl, h2, h3⟩
  | non => cases e
  | bl _ => cases e
  | int _ => cases e
  | str _ => cases e
  | tup _ => cases e
  | ref _ => cases e
  | ty _ => cases e
  | obj _ _ _ => cases e
  | scr _ => cases e
end

/-! ### names, constants -/
def vE (i : Nat) : FE := fun ρ μ => match ρ[i]? with
  | some (some d) => .ok d μ
  | _ => .bad
def cE (d : D) : FE := fun _ μ => .ok d μ
section
variable {X : Cx} {E : XK}
theorem de_var (i : Nat) {x : Str} {pos : Pos} (hN : X.N[i]? = some x := by rfl) (hv : Vis X.env.scope x := by first | exact Or.inl rfl | exact Or.inr (Or.inl rfl) | exact Or.inr (Or.inr rfl)) (hd : (x == ("__debug__" : Str)) = false := by decide)
    (hcd : (x == ("__classdict__" : Str)) = false := by decide) : DE X E (.Name x pos) (vE i) := by
  refine ⟨_, pe_var hN hv hd hcd, fun σ H α ρ μ Q s l h => ?_⟩
  unfold vE at h
  split at h
  · rename_i d e
    obtain ⟨v, h1, h2⟩ := l.2 i d e
    exact ⟨v, h1, same_ok s h2 h⟩
  · exact h.elim
theorem de_const {e : Expr} {v : V} {d : D} (h : PE X e (tC v)) (r : ∀ K α S, Den K α S d v) : DE X E e (cE d) :=
  ⟨_, h, fun σ H α ρ μ Q s l h => same_ok s (r _ _ _) h⟩
theorem de_int {i j pos} : DE X E (.Constant (.int i) j pos) (cE (.int i)) := de_const pe_int fun _ _ _ => .int
theorem de_bl {b j pos} : DE X E (.Constant (.bool b) j pos) (cE (.bl b)) := de_const pe_bl fun _ _ _ => .bl
theorem de_non {j pos} : DE X E (.Constant .none j pos) (cE .non) := de_const pe_non fun _ _ _ => .non
def txOk (s : List Nat) : Bool := decide (s.length ≤ 1000) && s.all fun c => decide (c < 1114112)
theorem txOk_ok {s : List Nat} (h : txOk s = true) : TxOk s := by
  unfold txOk at h
  rw [Bool.and_eq_true] at h
  exact ⟨Nat.le_of_lt (small1000 (of_decide_eq_true h.1)), fun c hc => of_decide_eq_true (List.all_eq_true.mp h.2 c hc)⟩
theorem de_str {x j pos} (s : List Nat) (e : x.cps.toList = s := by rfl) (h : txOk s = true := by decide) : DE X E (.Constant (.str x) j pos) (cE (.str s)) := de_const pe_str fun _ _ _ => by
  rw [← mkS_of x, e]
  exact .str (txOk_ok h)
/-- a constant of the module -/
theorem de_globS {x : Str} {z : Str} {t : Tok} {pos : Pos} (s : List Nat) (hm : X.mg x = some (.str z t)) (hg : Gl X x := by rfl) (e : z.cps.toList = s := by rfl) (h : txOk s = true := by decide) (hd : (x == ("__debug__" : Str)) = false := by decide) : DE X E (.Name x pos) (cE (.str s)) := de_const (pe_glob (v := .str z) hg hm ⟨_, rfl⟩ hd) fun _ _ _ => by
  rw [← mkS_of z, e]
  exact .str (txOk_ok h)
theorem de_globI {x : Str} {i : Int} {t : Tok} {pos : Pos} (hm : X.mg x = some (.int i t)) (hg : Gl X x := by rfl) (hd : (x == ("__debug__" : Str)) = false := by decide) : DE X E (.Name x pos) (cE (.int i)) := de_const (pe_glob (v := .int i) hg hm ⟨_, rfl⟩ hd) fun _ _ _ => .int

/-! ### operators -/
def op2 (g : D → D → Mu → Out D) (fa fb : FE) : FE := fun ρ μ => (fa ρ μ).bind fun x μ1 => (fb ρ μ1).bind fun y μ2 => g x y μ2
def op1 (g : D → Mu → Out D) (fa : FE) : FE := fun ρ μ => (fa ρ μ).bind g
theorem ev_op2 {r : R2} {g : D → D → Mu → Out D} {ta tb : TE} {fa fb : FE} {K : PySem.W.Frag} (h : Ev2 K E r g) (ha : EvE K E ta fa) (hb : EvE K E tb fb) : EvE K E (tOp r ta tb) (op2 g fa fb) := by
  intro σ H α ρ μ Q s l hm
  refine ha σ H α ρ μ _ s l (hm.bind.mono fun d1 μ1 α1 H1 e1 s1 m1 h1 v1 r1 => ?_)
  refine hb σ H1 α1 ρ μ1 _ s1 (l.mono m1) (h1.bind.mono fun d2 μ2 α2 H2 e2 s2 m2 h2 v2 r2 => ?_)
  exact h v1 v2 H2 α2 d1 d2 μ2 Q s2 (r1.mono m2) r2 h2
theorem ev_op1 {r : V → Hp → VK → Prop} {g : D → Mu → Out D} {ta : TE} {fa : FE} {K : PySem.W.Frag} (h : Ev1 K E r g) (ha : EvE K E ta fa) : EvE K E (tUn r ta) (op1 g fa) := by
  intro σ H α ρ μ Q s l hm
  refine ha σ H α ρ μ _ s l (hm.bind.mono fun d1 μ1 α1 H1 e1 s1 m1 h1 v1 r1 => ?_)
  exact h v1 H1 α1 d1 μ1 Q s1 r1 h1
theorem de_op {op : Operator} {g : D → D → Mu → Out D} {a b : Expr} {pos : Pos} {fa fb : FE} (h : D2 X E (binaryOp op) g) (ha : DE X E a fa) (hb : DE X E b fb) : DE X E (.BinOp a op b pos) (op2 g fa fb) := by
  obtain ⟨r, h1, h2⟩ := h.ex
  obtain ⟨ta, a1, a2⟩ := ha.ex
  obtain ⟨tb, b1, b2⟩ := hb.ex
  exact ⟨_, pe_op h1 a1 b1, ev_op2 h2 a2 b2⟩
theorem de_cmp {op : CmpOp} {g : D → D → Mu → Out D} {a b : Expr} {pos : Pos} {fa fb : FE} (h : D2 X E (compareOp op) g) (ha : DE X E a fa) (hb : DE X E b fb) (hm : behindInMarks op b = false := by first | exact nomark _ (by decide) (by decide) | rfl) : DE X E (.Compare a [op] [b] pos) (op2 g fa fb) := by
  obtain ⟨r, h1, h2⟩ := h.ex
  obtain ⟨ta, a1, a2⟩ := ha.ex
  obtain ⟨tb, b1, b2⟩ := hb.ex
  exact ⟨_, pe_cmpR h1 a1 b1 hm, ev_op2 h2 a2 b2⟩
def toB (fe : FE) : FT := fun ρ μ => (fe ρ μ).bind fun d μ1 => match d with
  | .bl b => .ok b μ1
  | _ => .bad
theorem ev_test {te : TE} {fe : FE} {K : PySem.W.Frag} (h : EvE K E te fe) : EvT K E (tTest te) (toB fe) := by
  intro σ H α ρ μ Q s l hm
  refine h σ H α ρ μ _ s l (hm.bind.mono fun d1 μ1 α1 H1 e1 s1 m1 h1 v1 r1 => ?_)
  split at h1
  · exact ⟨_, r1.bl_inv, h1 _ _ s1 (Mo.refl _ _)⟩
  · exact h1.elim
theorem dt_cmp {op : CmpOp} {g : D → D → Mu → Out D} {a b : Expr} {pos : Pos} {fa fb : FE} (h : D2 X E (compareOp op) g) (ha : DE X E a fa) (hb : DE X E b fb) (hm : behindInMarks op b = false := by first | exact nomark _ (by decide) (by decide) | rfl) : DT X E (.Compare a [op] [b] pos) (toB (op2 g fa fb)) := by
  obtain ⟨r, h1, h2⟩ := h.ex
  obtain ⟨ta, a1, a2⟩ := ha.ex
  obtain ⟨tb, b1, b2⟩ := hb.ex
  exact ⟨_, pt_cmpR h1 a1 b1 hm, ev_test (ev_op2 h2 a2 b2)⟩
theorem dt_val {e : Expr} {fe : FE} (h : DE X E e fe) (he : ∀ whole, isTrue e X.env whole = (do let v ← whole; standAt e.pos; holding [v] (truthy v)) := by intro _; rfl) : DT X E e (toB fe) := by
  obtain ⟨t, h1, h2⟩ := h.ex
  exact ⟨_, pt_val h1 he, ev_test h2⟩
/-- a < b < c -/
def chE (g g' : D → D → Mu → Out D) (fa fb fc : FE) : FE := fun ρ μ => (fa ρ μ).bind fun x μ1 => (fb ρ μ1).bind fun y μ2 => (g x y μ2).bind fun z μ3 => match z with
  | .bl true => (fc ρ μ3).bind fun w μ4 => g' y w μ4
  | .bl false => .ok (.bl false) μ3
  | _ => .bad
theorem ev_chain {r r' : R2} {g g' : D → D → Mu → Out D} {ta tb tc : TE} {fa fb fc : FE} {K : PySem.W.Frag} (h : Ev2 K E r g) (h' : Ev2 K E r' g') (ha : EvE K E ta fa) (hb : EvE K E tb fb) (hc : EvE K E tc fc) : EvE K E (tChain r r' ta tb tc) (chE g g' fa fb fc) := by
  intro σ H α ρ μ Q s l hm
  refine ha σ H α ρ μ _ s l (hm.bind.mono fun d1 μ1 α1 H1 e1 s1 m1 h1 v1 r1 => ?_)
  refine hb σ H1 α1 ρ μ1 _ s1 (l.mono m1) (h1.bind.mono fun d2 μ2 α2 H2 e2 s2 m2 h2 v2 r2 => ?_)
  refine h v1 v2 H2 α2 d1 d2 μ2 _ s2 (r1.mono m2) r2 (h2.bind.mono fun d3 μ3 α3 H3 e3 s3 m3 h3 v3 r3 => ?_)
  split at h3
  · refine ⟨true, r3.bl_inv, ?_⟩
    rw [if_pos rfl]
    refine hc σ H3 α3 ρ μ3 _ s3 (l.mono ((m1.trans m2).trans m3)) (h3.bind.mono fun d4 μ4 α4 H4 e4 s4 m4 h4 v4 r4 => ?_)
    exact h' v2 v4 H4 α4 d2 d4 μ4 Q s4 (r2.mono (m3.trans m4)) r4 h4
  · refine ⟨false, r3.bl_inv, ?_⟩
    rw [if_neg Bool.false_ne_true]
    exact same_ok s3 .bl h3
  · exact h3.elim
theorem de_chain {op op' : CmpOp} {g g' : D → D → Mu → Out D} {a b c : Expr} {pos : Pos} {fa fb fc : FE} (h : D2 X E (compareOp op) g) (h' : D2 X E (compareOp op') g') (ha : DE X E a fa) (hb : DE X E b fb) (hc : DE X E c fc) (hm : lastMarks [op, op'] [b, c] = false := by rfl) : DE X E (.Compare a [op, op'] [b, c] pos) (chE g g' fa fb fc) := by
  obtain ⟨r, h1, h2⟩ := h.ex
  obtain ⟨r', h1', h2'⟩ := h'.ex
  obtain ⟨ta, a1, a2⟩ := ha.ex
  obtain ⟨tb, b1, b2⟩ := hb.ex
  obtain ⟨tc, c1, c2⟩ := hc.ex
  exact ⟨_, pe_chain h1 h1' a1 b1 c1 (hm := hm), ev_chain h2 h2' a2 b2 c2⟩
theorem dt_chain {op op' : CmpOp} {g g' : D → D → Mu → Out D} {a b c : Expr} {pos : Pos} {fa fb fc : FE} (h : D2 X E (compareOp op) g) (h' : D2 X E (compareOp op') g') (ha : DE X E a fa) (hb : DE X E b fb) (hc : DE X E c fc) (hm : lastMarks [op, op'] [b, c] = false := by rfl) : DT X E (.Compare a [op, op'] [b, c] pos) (toB (chE g g' fa fb fc)) := by
  obtain ⟨r, h1, h2⟩ := h.ex
  obtain ⟨r', h1', h2'⟩ := h'.ex
  obtain ⟨ta, a1, a2⟩ := ha.ex
  obtain ⟨tb, b1, b2⟩ := hb.ex
  obtain ⟨tc, c1, c2⟩ := hc.ex
  exact ⟨_, pt_chain h1 h1' a1 b1 c1 (hm := hm), ev_test (ev_chain h2 h2' a2 b2 c2)⟩

/-! ### and, or, not, if -/
def andT (fa fb : FT) : FT := fun ρ μ => (fa ρ μ).bind fun b μ1 => if b then fb ρ μ1 else .ok false μ1
def orT (fa fb : FT) : FT := fun ρ μ => (fa ρ μ).bind fun b μ1 => if b then .ok true μ1 else fb ρ μ1
def notT (fa : FT) : FT := fun ρ μ => (fa ρ μ).bind fun b μ1 => .ok (!b) μ1
def ifE (fc : FT) (fa fb : FE) : FE := fun ρ μ => (fc ρ μ).bind fun b μ1 => if b then fa ρ μ1 else fb ρ μ1
def andE (fa fb : FE) : FE := fun ρ μ => (toB fa ρ μ).bind fun b μ1 => if b then fb ρ μ1 else .ok (.bl false) μ1
def orE (fa fb : FE) : FE := fun ρ μ => (toB fa ρ μ).bind fun b μ1 => if b then .ok (.bl true) μ1 else fb ρ μ1
def notE (fa : FE) : FE := fun ρ μ => (toB fa ρ μ).bind fun b μ1 => .ok (.bl (!b)) μ1
variable {a b c : Expr} {rest : List Expr} {pos : Pos} {fa fb fc : FE} {ga gb gc : FT}
theorem dw_and1 (ha : DT X E a ga) : DW X E (.BoolOp .And [a] pos) ga := by
  obtain ⟨t, h1, h2⟩ := ha.ex
  exact ⟨_, pw_and1 h1, h2⟩
theorem dw_or1 (ha : DT X E a ga) : DW X E (.BoolOp .Or [a] pos) ga := by
  obtain ⟨t, h1, h2⟩ := ha.ex
  exact ⟨_, pw_or1 h1, h2⟩
theorem dw_and (ha : DT X E a ga) (hb : DW X E (.BoolOp .And (b :: rest) pos) gb) : DW X E (.BoolOp .And (a :: b :: rest) pos) (andT ga gb) := by
  obtain ⟨ta, a1, a2⟩ := ha.ex
  obtain ⟨tb, b1, b2⟩ := hb.ex
  refine ⟨_, pw_and a1 b1, fun σ H α ρ μ Q s l hm => ?_⟩
  refine a2 σ H α ρ μ _ s l (hm.bind.mono fun d1 μ1 α1 H1 e1 s1 m1 h1 => ?_)
  cases d1 with
  | true => exact b2 σ H1 α1 ρ μ1 Q s1 (l.mono m1) h1
  | false => exact h1 _ _ s1 (Mo.refl _ _)
theorem dw_or (ha : DT X E a ga) (hb : DW X E (.BoolOp .Or (b :: rest) pos) gb) : DW X E (.BoolOp .Or (a :: b :: rest) pos) (orT ga gb) := by
  obtain ⟨ta, a1, a2⟩ := ha.ex
  obtain ⟨tb, b1, b2⟩ := hb.ex
  refine ⟨_, pw_or a1 b1, fun σ H α ρ μ Q s l hm => ?_⟩
  refine a2 σ H α ρ μ _ s l (hm.bind.mono fun d1 μ1 α1 H1 e1 s1 m1 h1 => ?_)
  cases d1 with
  | false => exact b2 σ H1 α1 ρ μ1 Q s1 (l.mono m1) h1
  | true => exact h1 _ _ s1 (Mo.refl _ _)
theorem DW.dt (h : DW X E a ga) : DT X E a ga := by
  obtain ⟨t, h1, h2⟩ := h.ex
  exact ⟨_, h1.pt, h2⟩
theorem dt_not (ha : DT X E a ga) : DT X E (.UnaryOp .Not a pos) (notT ga) := by
  obtain ⟨ta, a1, a2⟩ := ha.ex
  refine ⟨_, pt_not a1, fun σ H α ρ μ Q s l hm => ?_⟩
  refine a2 σ H α ρ μ _ s l (hm.bind.mono fun d1 μ1 α1 H1 e1 s1 m1 h1 => ?_)
  exact h1 _ _ s1 (Mo.refl _ _)
theorem de_if (hc : DT X E c gc) (ha : DE X E a fa) (hb : DE X E b fb) : DE X E (.IfExp c a b pos) (ifE gc fa fb) := by
  obtain ⟨tc, c1, c2⟩ := hc.ex
  obtain ⟨ta, a1, a2⟩ := ha.ex
  obtain ⟨tb, b1, b2⟩ := hb.ex
  refine ⟨_, pe_ifExp c1 a1 b1, fun σ H α ρ μ Q s l hm => ?_⟩
  refine c2 σ H α ρ μ _ s l (hm.bind.mono fun d1 μ1 α1 H1 e1 s1 m1 h1 => ?_)
  cases d1 with
  | true => exact a2 σ H1 α1 ρ μ1 Q s1 (l.mono m1) h1
  | false => exact b2 σ H1 α1 ρ μ1 Q s1 (l.mono m1) h1
theorem de_one {op} (ha : DE X E a fa) : DE X E (.BoolOp op [a] pos) fa := by
  obtain ⟨ta, a1, a2⟩ := ha.ex
  exact ⟨_, pe_one a1, a2⟩
theorem ev_toB {te : TE} {fe : FE} {K : PySem.W.Frag} {Q : Bool → Hp → Prop} {σ : L2.St} {H : Hp} {α : Led} {ρ : Env} {μ : Mu} (h : EvE K E te fe) (s : Sat K α μ H) (l : Loc K α (stb α μ H) σ ρ) (hm : Meets K E α (stb α μ H) (toB fe ρ μ) (fun b _ _ H' => Q b H')) : te σ H (fun x H1 => ∃ c, x = .bl c ∧ Q c H1) :=
  ev_test h σ H α ρ μ Q s l hm
theorem de_and (ha : DE X E a fa) (hb : DE X E (.BoolOp .And (b :: rest) pos) fb) : DE X E (.BoolOp .And (a :: b :: rest) pos) (andE fa fb) := by
  obtain ⟨ta, a1, a2⟩ := ha.ex
  obtain ⟨tb, b1, b2⟩ := hb.ex
  refine ⟨_, pe_and a1 b1, fun σ H α ρ μ Q s l hm => ?_⟩
  refine ev_test a2 σ H α ρ μ _ s l (hm.bind.mono fun d1 μ1 α1 H1 e1 s1 m1 h1 => ?_)
  cases d1 with
  | true => exact b2 σ H1 α1 ρ μ1 Q s1 (l.mono m1) h1
  | false => exact same_ok s1 .bl h1
theorem de_or (ha : DE X E a fa) (hb : DE X E (.BoolOp .Or (b :: rest) pos) fb) : DE X E (.BoolOp .Or (a :: b :: rest) pos) (orE fa fb) := by
  obtain ⟨ta, a1, a2⟩ := ha.ex
  obtain ⟨tb, b1, b2⟩ := hb.ex
  refine ⟨_, pe_or a1 b1, fun σ H α ρ μ Q s l hm => ?_⟩
  refine ev_test a2 σ H α ρ μ _ s l (hm.bind.mono fun d1 μ1 α1 H1 e1 s1 m1 h1 => ?_)
  cases d1 with
  | false => exact b2 σ H1 α1 ρ μ1 Q s1 (l.mono m1) h1
  | true => exact same_ok s1 .bl h1
theorem de_not (ha : DE X E a fa) : DE X E (.UnaryOp .Not a pos) (notE fa) := by
  obtain ⟨ta, a1, a2⟩ := ha.ex
  refine ⟨_, pe_not a1, fun σ H α ρ μ Q s l hm => ?_⟩
  refine ev_test a2 σ H α ρ μ _ s l (hm.bind.mono fun d1 μ1 α1 H1 e1 s1 m1 h1 => ?_)
  exact same_ok s1 .bl h1

/-! ### arguments, displays -/
def nilA : FA := fun _ μ => .ok [] μ
def consA (fe : FE) (fr : FA) : FA := fun ρ μ => (fe ρ μ).bind fun d μ1 => (fr ρ μ1).bind fun ds μ2 => .ok (d :: ds) μ2
theorem da_nil : DA X E [] nilA := ⟨_, pa_nil, fun σ H α ρ μ Q s l hm => hm _ _ s (Mo.refl _ _) _ .nil⟩
theorem da_cons {e : Expr} {es : List Expr} {fe : FE} {fr : FA} (ha : DE X E e fe) (hr : DA X E es fr) (hs : starEach (e :: es) X.env = (false, eval e X.env) :: starEach es X.env := by rfl) : DA X E (e :: es) (consA fe fr) := by
  obtain ⟨ta, a1, a2⟩ := ha.ex
  obtain ⟨tb, b1, b2⟩ := hr.ex
  refine ⟨_, pa_cons a1 b1 hs, fun σ H α ρ μ Q s l hm => ?_⟩
  refine a2 σ H α ρ μ _ s l (hm.bind.mono fun d1 μ1 α1 H1 e1 s1 m1 h1 v1 r1 => ?_)
  refine b2 σ H1 α1 ρ μ1 _ s1 (l.mono m1) (h1.bind.mono fun d2 μ2 α2 H2 e2 s2 m2 h2 v2 r2 => ?_)
  exact h2 _ _ s2 (Mo.refl _ _) _ (.cons (r1.mono m2) r2)
def tupE (fa : FA) : FE := fun ρ μ => (fa ρ μ).bind fun ds μ1 => if ds.length ≤ 1000 then .ok (.tup ds) μ1 else .bad
def lstE (b : Bool) (fa : FA) : FE := fun ρ μ => (fa ρ μ).bind fun ds μ1 => if ds.length ≤ 1000 then mkL b ds μ1 else .bad
theorem de_tup {es : List Expr} {f : FA} {k : Nat} (h : DA X E es f) : DE X E (.Tuple es k pos) (tupE f) := by
  obtain ⟨t, h1, h2⟩ := h.ex
  refine ⟨_, pe_tup h1, fun σ H α ρ μ Q s l hm => ?_⟩
  refine h2 σ H α ρ μ _ s l (hm.bind.mono fun d1 μ1 α1 H1 e1 s1 m1 q1 v1 r1 => ?_)
  split at q1
  · rename_i hl
    refine ⟨by rw [← r1.length]; exact Nat.le_of_lt (small1000 hl), tup_ok s1 r1 q1⟩
  · exact q1.elim
theorem de_lst {es : List Expr} {f : FA} (b : Bool) (h : DA X E es f) : DE X E (.List es pos) (lstE b f) := by
  obtain ⟨t, h1, h2⟩ := h.ex
  refine ⟨_, pe_lst h1, fun σ H α ρ μ Q s l hm => ?_⟩
  refine h2 σ H α ρ μ _ s l (hm.bind.mono fun d1 μ1 α1 H1 e1 s1 m1 q1 v1 r1 => ?_)
  split at q1
  · rename_i hl
    refine ⟨by rw [← r1.length]; exact Nat.le_of_lt (small1000 hl), mkL_ok s1 r1 q1⟩
  · exact q1.elim

/-! ### calls by values -/
def callE (g : FF) (fa : FA) : FE := fun ρ μ => (fa ρ μ).bind g
theorem ev_call {r : List V → Hp → VK → Prop} {g : FF} {t : TA} {fa : FA} {K : PySem.W.Frag} (h : EvC K E r g) (ha : EvA K E t fa) : EvE K E (tCB r t) (callE g fa) := by
  intro σ H α ρ μ Q s l hm
  refine ha σ H α ρ μ _ s l (hm.bind.mono fun d1 μ1 α1 H1 e1 s1 m1 q1 v1 r1 => ?_)
  exact h v1 H1 α1 d1 μ1 Q s1 r1 q1
theorem de_callB {id : String} {g : FF} {f : FA} {x : Str} {p : Pos} {e : Expr} {es : List Expr} (h : DC X E (.builtin id) g) (hm : X.mg x = none) (hv : bootBuiltins x = some (.builtin id)) (ha : DA X E (e :: es) f) (hg : Gl X x := by rfl)
    (hn : x ≠ "__name__" := by decide) (hdb : (x == ("__debug__" : Str)) = false := by decide) (he : starEach (e :: es) X.env = (false, eval e X.env) :: starEach es X.env := by rfl) (hpl : (backTo pos (starEach es X.env)).any (·.1) = false := by rfl) : DE X E (.Call (.Name x p) (e :: es) [] pos) (callE g f) := by
  obtain ⟨r, h1, h2⟩ := h.ex
  obtain ⟨t, a1, a2⟩ := ha.ex
  exact ⟨_, pe_callB h1 hg hm hv a1 hn hdb he hpl, ev_call h2 a2⟩
theorem de_callTy {T : String} {g : FF} {f : FA} {x : Str} {p : Pos} {e : Expr} {es : List Expr} (h : DC X E (.type T) g) (hm : X.mg x = none) (hv : bootBuiltins x = some (.type T)) (ha : DA X E (e :: es) f) (hg : Gl X x := by rfl)
    (hn : x ≠ "__name__" := by decide) (hdb : (x == ("__debug__" : Str)) = false := by decide) (he : starEach (e :: es) X.env = (false, eval e X.env) :: starEach es X.env := by rfl) (hpl : (backTo pos (starEach es X.env)).any (·.1) = false := by rfl) : DE X E (.Call (.Name x p) (e :: es) [] pos) (callE g f) := by
  obtain ⟨r, h1, h2⟩ := h.ex
  obtain ⟨t, a1, a2⟩ := ha.ex
  exact ⟨_, pe_callTy h1 hg hm hv a1 hn hdb he hpl, ev_call h2 a2⟩
end
end Dt

/-! Dt3: operators, comparisons, subscripts, slices, built-in calls, by data. -/
namespace Dt
open PySem PySem.Spec PyProof.Rows L2

/-! ### operators -/
def addD (b : Bool) : D → D → Mu → Out D
  | .int i, .int j, μ => .ok (.int (i + j)) μ
  | .str s, .str t, μ => if s.length + t.length ≤ sizeLine then .ok (.str (s ++ t)) μ else .bad
  | x, y, μ => match getL x μ, getL y μ with
    | some xs, some ys => if xs.length + ys.length ≤ sizeLine then mkL b (xs ++ ys) μ else .bad
    | _, _ => .bad
def subD : D → D → Mu → Out D
  | .int i, .int j, μ => .ok (.int (i - j)) μ
  | _, _, _ => .bad
instance (i j : Int) : Decidable (CMul i j) := by unfold CMul; infer_instance
instance (i j : Int) : Decidable (CDiv i j) := by unfold CDiv; infer_instance
instance (i j : Int) : Decidable (CPow i j) := by unfold CPow; infer_instance
def mulD : D → D → Mu → Out D
  | .int i, .int j, μ => if CMul i j then .ok (.int (i * j)) μ else .bad
  | _, _, _ => .bad
def fdivD : D → D → Mu → Out D
  | .int i, .int j, μ => if CDiv i j then .ok (.int (i / j)) μ else .bad
  | _, _, _ => .bad
def modD : D → D → Mu → Out D
  | .int i, .int j, μ => if 0 < j then .ok (.int (i % j)) μ else .bad
  | _, _, _ => .bad
def powD : D → D → Mu → Out D
  | .int i, .int j, μ => if CPow i j then .ok (.int (i ^ j.toNat)) μ else .bad
  | _, _, _ => .bad
def negD : D → Mu → Out D
  | .int i, μ => .ok (.int (-i)) μ
  | _, _ => .bad
def cmpD (p : Int → Int → Bool) : D → D → Mu → Out D
  | .int i, .int j, μ => .ok (.bl (p i j)) μ
  | _, _, _ => .bad
def ltD : D → D → Mu → Out D := cmpD fun i j => decide (i < j)
def leD : D → D → Mu → Out D := cmpD fun i j => decide (i ≤ j)
def gtD : D → D → Mu → Out D := cmpD fun i j => decide (j < i)
def geD : D → D → Mu → Out D := cmpD fun i j => decide (j ≤ i)
section
variable {X : Cx} {E : XK}
theorem mkS_append (s t : List Nat) : mkS s ++ mkS t = mkS (s ++ t) := by
  show (⟨s.toArray ++ t.toArray⟩ : Str) = ⟨(s ++ t).toArray⟩
  rw [List.append_toArray]
theorem TxOk.append {s t : List Nat} (h : TxOk s) (h' : TxOk t) (hl : s.length + t.length ≤ sizeLine) : TxOk (s ++ t) :=
  ⟨by rw [List.length_append]; exact hl, fun c hc => (List.mem_append.mp hc).elim (h.2 c) (h'.2 c)⟩
theorem TxOk.sub {s t : List Nat} (h : TxOk s) (hl : t.length ≤ s.length) (hm : ∀ c ∈ t, c ∈ s) : TxOk t := ⟨Nat.le_trans hl h.1, fun c hc => h.2 c (hm c hc)⟩
theorem d2_add (b : Bool) : D2 X E (binaryOp .Add) (addD b) := by
  refine ⟨_, OpR.or op_add (OpR.or op_add_str op_cat), fun x y H α dx dy μ Q s rx ry h => ?_⟩
  unfold addD at h
  split at h
  · obtain rfl := rx.int_inv
    obtain rfl := ry.int_inv
    exact .inl ⟨_, _, rfl, rfl, same_ok s .int h⟩
  · rename_i u t
    obtain ⟨rfl, o1⟩ := rx.str_inv
    obtain ⟨rfl, o2⟩ := ry.str_inv
    split at h
    · rename_i hl
      refine .inr (.inl ⟨_, _, rfl, rfl, by rw [mkS_len, mkS_len]; exact hl, ?_⟩)
      rw [mkS_append]
      exact same_ok s (.str (o1.append o2 hl)) h
    · exact h.elim
  · split at h
    · rename_i xs ys e1 e2
      obtain ⟨a, vs, rfl, h1, r1⟩ := getL_at e1 s rx
      obtain ⟨c, ws, rfl, h2, r2⟩ := getL_at e2 s ry
      split at h
      · rename_i hl
        exact .inr (.inr ⟨a, c, vs, ws, rfl, rfl, h1, h2, by rw [← r1.length, ← r2.length]; exact hl, mkL_ok s (r1.append r2) h⟩)
      · exact h.elim
    · exact h.elim
theorem d2_sub : D2 X E (binaryOp .Sub) subD := by
  refine ⟨_, op_sub, fun x y H α dx dy μ Q s rx ry h => ?_⟩
  unfold subD at h
  split at h
  · obtain rfl := rx.int_inv
    obtain rfl := ry.int_inv
    exact ⟨_, _, rfl, rfl, same_ok s .int h⟩
  · exact h.elim
theorem d2_rI {fop : Value → Value → Sem Value} {C : Int → Int → Prop} [∀ i j, Decidable (C i j)] {g : Int → Int → Int} {f : D → D → Mu → Out D} (ho : OpR X fop (rI C fun i j => .int (g i j)))
    (hf : ∀ x y μ, f x y μ = .bad ∨ ∃ i j, x = .int i ∧ y = .int j ∧ f x y μ = if C i j then .ok (.int (g i j)) μ else .bad) : D2 X E fop f := by
  refine ⟨_, ho, fun x y H α dx dy μ Q s rx ry h => ?_⟩
  rcases hf dx dy μ with e | ⟨i, j, rfl, rfl, e⟩
  · rw [e] at h
    exact h.elim
  · rw [e] at h
    obtain rfl := rx.int_inv
    obtain rfl := ry.int_inv
    split at h
    · exact ⟨_, _, rfl, rfl, by assumption, same_ok s .int h⟩
    · exact h.elim
theorem d2_mul : D2 X E (binaryOp .Mult) mulD := d2_rI op_mul fun x y μ => by
  unfold mulD
  split
  · exact .inr ⟨_, _, rfl, rfl, rfl⟩
  · exact .inl rfl
theorem d2_fdiv : D2 X E (binaryOp .FloorDiv) fdivD := d2_rI op_fdiv fun x y μ => by
  unfold fdivD
  split
  · exact .inr ⟨_, _, rfl, rfl, rfl⟩
  · exact .inl rfl
theorem d2_mod : D2 X E (binaryOp .Mod) modD := d2_rI (C := fun _ j => 0 < j) op_mod fun x y μ => by
  unfold modD
  split
  · exact .inr ⟨_, _, rfl, rfl, rfl⟩
  · exact .inl rfl
theorem d2_pow : D2 X E (binaryOp .Pow) powD := d2_rI op_pow fun x y μ => by
  unfold powD
  split
  · exact .inr ⟨_, _, rfl, rfl, rfl⟩
  · exact .inl rfl
theorem d2_cmp {fop : Value → Value → Sem Value} {p : Int → Int → Bool} (ho : OpR X fop (rI0 fun i j => .bl (p i j))) : D2 X E fop (cmpD p) := by
  refine ⟨_, ho, fun x y H α dx dy μ Q s rx ry h => ?_⟩
  unfold cmpD at h
  split at h
  · obtain rfl := rx.int_inv
    obtain rfl := ry.int_inv
    exact ⟨_, _, rfl, rfl, same_ok s .bl h⟩
  · exact h.elim
theorem d2_lt : D2 X E (compareOp .Lt) ltD := d2_cmp op_lt
theorem d2_le : D2 X E (compareOp .LtE) leD := d2_cmp op_le
theorem d2_gt : D2 X E (compareOp .Gt) gtD := d2_cmp op_gt
theorem d2_ge : D2 X E (compareOp .GtE) geD := d2_cmp op_ge
theorem de_neg {a : Expr} {pos : Pos} {fa : FE} (ha : DE X E a fa) : DE X E (.UnaryOp .USub a pos) (op1 negD fa) := by
  obtain ⟨t, h1, h2⟩ := ha.ex
  refine ⟨_, pe_un un_neg h1, ev_op1 (fun x H α dx μ Q s rx h => ?_) h2⟩
  unfold negD at h
  split at h
  · obtain rfl := rx.int_inv
    exact ⟨_, rfl, same_ok s .int h⟩
  · exact h.elim

/-! ### is None, is not None -/
def isNonD : D → D → Mu → Out D
  | x, .non, μ => match x with
    | .non => .ok (.bl true) μ
    | _ => .ok (.bl false) μ
  | _, _, _ => .bad
def isntNonD : D → D → Mu → Out D
  | x, .non, μ => match x with
    | .non => .ok (.bl false) μ
    | _ => .ok (.bl true) μ
  | _, _, _ => .bad
def isN : D → Bool
  | .non => true
  | _ => false
theorem den_isN {K : PySem.W.Frag} {α : Led} {S : Stb} {d : D} {v : V} (r : Den K α S d v) : decide (v = .non) = isN d := by
  cases d with
  | non => rw [r.non_inv]; rfl
  | bl b => rw [r.bl_inv]; rfl
  | int i => rw [r.int_inv]; rfl
  | str s => rw [r.str_inv.1]; rfl
  | lst ds => obtain ⟨a, xs, rfl, _⟩ := r.lst_inv; rfl
  | tup ds => obtain ⟨a, xs, rfl, _⟩ := r.tup_inv; rfl
  | own k => obtain ⟨a, _, rfl⟩ := r.own_inv; rfl
  | ref a => rw [r.ref_inv]; rfl
  | ty n => rw [r.ty_inv]; rfl
  | obj C ns ds => obtain ⟨a, dx, xs, rfl, _⟩ := r.obj_inv; rfl
  | scr ns => obtain ⟨a, rfl, _⟩ := r.scr_inv; rfl
theorem isNonD_eq (x y : D) (μ : Mu) : isNonD x y μ = if isN y then .ok (.bl (isN x)) μ else .bad := by cases y <;> first | rfl | (cases x <;> rfl)
theorem isntNonD_eq (x y : D) (μ : Mu) : isntNonD x y μ = if isN y then .ok (.bl (!isN x)) μ else .bad := by cases y <;> first | rfl | (cases x <;> rfl)
theorem d2_isN : D2 X E (compareOp .Is) isNonD := by
  refine ⟨_, op_isN, fun x y H α dx dy μ Q s rx ry h => ?_⟩
  rw [isNonD_eq] at h
  split at h
  · rename_i g
    refine ⟨by have := den_isN ry; rw [g] at this; exact of_decide_eq_true this, ?_⟩
    rw [den_isN rx]
    exact same_ok s .bl h
  · exact h.elim
theorem d2_isntN : D2 X E (compareOp .IsNot) isntNonD := by
  refine ⟨_, op_notN, fun x y H α dx dy μ Q s rx ry h => ?_⟩
  rw [isntNonD_eq] at h
  split at h
  · rename_i g
    refine ⟨by have := den_isN ry; rw [g] at this; exact of_decide_eq_true this, ?_⟩
    rw [den_isN rx]
    exact same_ok s .bl h
  · exact h.elim
end

/-! ### == of data -/
mutual
def toPy : D → PyData
  | .non => .none
  | .bl b => .bool b
  | .int i => .int i
  | .str s => .str (mkS s)
  | .lst ds => .list (toPys ds)
  | .tup ds => .tuple (toPys ds)
  | .own _ => .none
  | .ref _ => .none
  | .ty _ => .none
  | .obj _ _ _ => .none
  | .scr _ => .none
def toPys : List D → List PyData
  | [] => []
  | d :: ds => toPy d :: toPys ds
end
mutual
/-- plain data of a depth of at most so much -/
def plain : Nat → D → Bool
  | _, .non => true
  | _, .bl _ => true
  | _, .int _ => true
  | _, .str _ => true
  | n + 1, .lst ds => plains n ds
  | n + 1, .tup ds => plains n ds
  | _, _ => false
def plains : Nat → List D → Bool
  | _, [] => true
  | n, d :: ds => plain n d && plains n ds
end
mutual
def eqvD : D → D → Bool
  | .non, .non => true
  | .bl a, .bl b => a == b
  | .bl a, .int j => (if a then 1 else 0) == j
  | .int i, .bl b => i == (if b then 1 else 0)
  | .int i, .int j => i == j
  | .str s, .str t => s == t
  | .lst xs, .lst ys => eqvDs xs ys
  | .tup xs, .tup ys => eqvDs xs ys
  | _, _ => false
def eqvDs : List D → List D → Bool
  | [], [] => true
  | x :: xs, y :: ys => eqvD x y && eqvDs xs ys
  | _, _ => false
end
/-- a mutable list as the data that it is now -/
def deref (d : D) (μ : Mu) : D := match d with
  | .own k => match moL μ[k]? with
    | some ds => .lst ds
    | none => d
  | _ => d
def eqD (x y : D) (μ : Mu) : Out D := if plain 20 (deref x μ) && plain 20 (deref y μ) then .ok (.bl (eqvD (deref x μ) (deref y μ))) μ else .bad
def neD (x y : D) (μ : Mu) : Out D := if plain 20 (deref x μ) && plain 20 (deref y μ) then .ok (.bl (!eqvD (deref x μ) (deref y μ))) μ else .bad
section
variable {K : PySem.W.Frag} {α : Led} {H : Hp} {S : Stb}
mutual
theorem dp_of (e : ∀ (a : Addr) (o : HO), S a = some (true, o) → H a = some o) : ∀ (n : Nat) (d : D) (v : V), plain n d = true → Den K α S d v → Dp K H v (toPy d)
  | _, .non, v, p, r => by rw [r.non_inv]; exact .non
  | _, .bl b, v, p, r => by rw [r.bl_inv]; exact .bl b
  | _, .int i, v, p, r => by rw [r.int_inv]; exact .int i
  | _, .str s, v, p, r => by rw [r.str_inv.1]; exact .str _
  | n + 1, .lst ds, v, p, r => by
    obtain ⟨a, xs, rfl, h1, h2⟩ := r.lst_inv
    exact .lst (SqL.of (e _ _ h1)) (dps_of e n ds xs p h2)
  | n + 1, .tup ds, v, p, r => by
    obtain ⟨a, xs, rfl, h1, h2⟩ := r.tup_inv
    exact .tup (SqT.of (e _ _ h1)) (dps_of e n ds xs p h2)
  | 0, .lst ds, v, p, r => by cases p
  | 0, .tup ds, v, p, r => by cases p
  | n, .own k, v, p, r => by cases n <;> cases p
  | n, .ref k, v, p, r => by cases n <;> cases p
  | n, .ty k, v, p, r => by cases n <;> cases p
  | n, .obj _ _ _, v, p, r => by cases n <;> cases p
  | n, .scr _, v, p, r => by cases n <;> cases p
theorem dps_of (e : ∀ (a : Addr) (o : HO), S a = some (true, o) → H a = some o) : ∀ (n : Nat) (ds : List D) (vs : List V), plains n ds = true → DenL K α S ds vs → DpAll K H vs (toPys ds)
  | n, [], vs, p, r => by rw [r.nil_inv]; exact .nil
  | n, d :: ds, vs, p, r => by
    obtain ⟨v, t, rfl, h1, h2⟩ := r.cons_inv
    unfold plains at p
    rw [Bool.and_eq_true] at p
    exact .cons (dp_of e n d v p.1 h1) (dps_of e n ds t p.2 h2)
end
theorem strOk_of {s : List Nat} (h : TxOk s) : PyData.strOk (mkS s) = true := by
  unfold PyData.strOk mkS
  rw [Array.all_eq_true]
  intro i hi
  exact decide_eq_true (h.2 _ (by simp))
mutual
theorem lay_of : ∀ (n : Nat) (d : D) (v : V), plain n d = true → Den K α S d v → (toPy d).canLay0 = true ∧ (toPy d).depth ≤ n
  | n, .non, v, p, r => by unfold toPy; exact ⟨rfl, by simp [PyData.depth]⟩
  | n, .bl b, v, p, r => by unfold toPy; exact ⟨rfl, by simp [PyData.depth]⟩
  | n, .int i, v, p, r => by unfold toPy; exact ⟨rfl, by simp [PyData.depth]⟩
  | n, .str s, v, p, r => by unfold toPy; exact ⟨by unfold PyData.canLay0; exact strOk_of r.str_inv.2, by simp [PyData.depth]⟩
  | n + 1, .lst ds, v, p, r => by
    obtain ⟨a, xs, rfl, h1, h2⟩ := r.lst_inv
    obtain ⟨h3, h4⟩ := lays_of n ds xs p h2
    unfold toPy
    exact ⟨by unfold PyData.canLay0; exact h3, by unfold PyData.depth; omega⟩
  | n + 1, .tup ds, v, p, r => by
    obtain ⟨a, xs, rfl, h1, h2⟩ := r.tup_inv
    obtain ⟨h3, h4⟩ := lays_of n ds xs p h2
    unfold toPy
    exact ⟨by unfold PyData.canLay0; exact h3, by unfold PyData.depth; omega⟩
  | 0, .lst ds, v, p, r => by cases p
  | 0, .tup ds, v, p, r => by cases p
  | n, .own k, v, p, r => by cases n <;> cases p
  | n, .ref k, v, p, r => by cases n <;> cases p
  | n, .ty k, v, p, r => by cases n <;> cases p
  | n, .obj _ _ _, v, p, r => by cases n <;> cases p
  | n, .scr _, v, p, r => by cases n <;> cases p
theorem lays_of : ∀ (n : Nat) (ds : List D) (vs : List V), plains n ds = true → DenL K α S ds vs → PyData.canLayAll0 (toPys ds) = true ∧ PyData.depthAll (toPys ds) ≤ n
  | n, [], vs, p, r => by unfold toPys; exact ⟨rfl, by simp [PyData.depthAll]⟩
  | n, d :: ds, vs, p, r => by
    obtain ⟨v, t, rfl, h1, h2⟩ := r.cons_inv
    unfold plains at p
    rw [Bool.and_eq_true] at p
    obtain ⟨h3, h4⟩ := lay_of n d v p.1 h1
    obtain ⟨h5, h6⟩ := lays_of n ds t p.2 h2
    unfold toPys
    exact ⟨by unfold PyData.canLayAll0; rw [h3, h5]; rfl, by unfold PyData.depthAll; omega⟩
end
theorem mkS_inj {s t : List Nat} (h : mkS s = mkS t) : s = t := by
  have : (mkS s).cps.toList = (mkS t).cps.toList := by rw [h]
  rwa [mkS_cps, mkS_cps] at this
theorem mkS_beq (s t : List Nat) : (mkS s == mkS t) = (s == t) := by
  rw [Bool.eq_iff_iff, beq_iff_eq, beq_iff_eq]
  exact ⟨mkS_inj, fun h => by rw [h]⟩
mutual
theorem eqv_py : ∀ (n m : Nat) (d e : D), plain n d = true → plain m e = true → PyData.eqv (toPy d) (toPy e) = eqvD d e
  | n, m, .str s, .str t, p, q => by unfold toPy PyData.eqv eqvD; exact mkS_beq s t
  | n + 1, m + 1, .lst ds, .lst es, p, q => by unfold toPy PyData.eqv eqvD; exact eqvs_py n m ds es p q
  | n + 1, m + 1, .tup ds, .tup es, p, q => by unfold toPy PyData.eqv eqvD; exact eqvs_py n m ds es p q
  | 0, m, .lst ds, e, p, q => by cases p
  | 0, m, .tup ds, e, p, q => by cases p
  | n, 0, d, .lst ds, p, q => by cases q
  | n, 0, d, .tup ds, p, q => by cases q
  | n, m, .own _, e, p, q => by cases n <;> cases p
  | n, m, .ref _, e, p, q => by cases n <;> cases p
  | n, m, .ty _, e, p, q => by cases n <;> cases p
  | n, m, .obj _ _ _, e, p, q => by cases n <;> cases p
  | n, m, .scr _, e, p, q => by cases n <;> cases p
  | n, m, d, .own _, p, q => by cases m <;> cases q
  | n, m, d, .ref _, p, q => by cases m <;> cases q
  | n, m, d, .ty _, p, q => by cases m <;> cases q
  | n, m, d, .obj _ _ _, p, q => by cases m <;> cases q
  | n, m, d, .scr _, p, q => by cases m <;> cases q
  | n, m, .non, .non, p, q => by simp [toPy, PyData.eqv, eqvD]
  | n, m, .non, .bl _, p, q => by simp [toPy, PyData.eqv, eqvD]
  | n, m, .non, .int _, p, q => by simp [toPy, PyData.eqv, eqvD]
  | n, m, .non, .str _, p, q => by simp [toPy, PyData.eqv, eqvD]
  | n, m + 1, .non, .lst _, p, q => by simp [toPy, PyData.eqv, eqvD]
  | n, m + 1, .non, .tup _, p, q => by simp [toPy, PyData.eqv, eqvD]
  | n, m, .bl _, .non, p, q => by simp [toPy, PyData.eqv, eqvD]
  | n, m, .bl _, .bl _, p, q => by simp [toPy, PyData.eqv, eqvD]
  | n, m, .bl _, .int _, p, q => by simp [toPy, PyData.eqv, eqvD]
  | n, m, .bl _, .str _, p, q => by simp [toPy, PyData.eqv, eqvD]
  | n, m + 1, .bl _, .lst _, p, q => by simp [toPy, PyData.eqv, eqvD]
  | n, m + 1, .bl _, .tup _, p, q => by simp [toPy, PyData.eqv, eqvD]
  | n, m, .int _, .non, p, q => by simp [toPy, PyData.eqv, eqvD]
  | n, m, .int _, .bl _, p, q => by simp [toPy, PyData.eqv, eqvD]
  | n, m, .int _, .int _, p, q => by simp [toPy, PyData.eqv, eqvD]
  | n, m, .int _, .str _, p, q => by simp [toPy, PyData.eqv, eqvD]
  | n, m + 1, .int _, .lst _, p, q => by simp [toPy, PyData.eqv, eqvD]
  | n, m + 1, .int _, .tup _, p, q => by simp [toPy, PyData.eqv, eqvD]
  | n, m, .str _, .non, p, q => by simp [toPy, PyData.eqv, eqvD]
  | n, m, .str _, .bl _, p, q => by simp [toPy, PyData.eqv, eqvD]
  | n, m, .str _, .int _, p, q => by simp [toPy, PyData.eqv, eqvD]
  | n, m + 1, .str _, .lst _, p, q => by simp [toPy, PyData.eqv, eqvD]
  | n, m + 1, .str _, .tup _, p, q => by simp [toPy, PyData.eqv, eqvD]
  | n + 1, m, .lst _, .non, p, q => by simp [toPy, PyData.eqv, eqvD]
  | n + 1, m, .lst _, .bl _, p, q => by simp [toPy, PyData.eqv, eqvD]
  | n + 1, m, .lst _, .int _, p, q => by simp [toPy, PyData.eqv, eqvD]
  | n + 1, m, .lst _, .str _, p, q => by simp [toPy, PyData.eqv, eqvD]
  | n + 1, m + 1, .lst _, .tup _, p, q => by simp [toPy, PyData.eqv, eqvD]
  | n + 1, m, .tup _, .non, p, q => by simp [toPy, PyData.eqv, eqvD]
  | n + 1, m, .tup _, .bl _, p, q => by simp [toPy, PyData.eqv, eqvD]
  | n + 1, m, .tup _, .int _, p, q => by simp [toPy, PyData.eqv, eqvD]
  | n + 1, m, .tup _, .str _, p, q => by simp [toPy, PyData.eqv, eqvD]
  | n + 1, m + 1, .tup _, .lst _, p, q => by simp [toPy, PyData.eqv, eqvD]
theorem eqvs_py : ∀ (n m : Nat) (d e : List D), plains n d = true → plains m e = true → PyData.eqvAll (toPys d) (toPys e) = eqvDs d e
  | n, m, [], [], p, q => by simp [toPys, PyData.eqvAll, eqvDs]
  | n, m, [], _ :: _, p, q => by simp [toPys, PyData.eqvAll, eqvDs]
  | n, m, _ :: _, [], p, q => by simp [toPys, PyData.eqvAll, eqvDs]
  | n, m, d :: ds, e :: es, p, q => by
    unfold plains at p q
    rw [Bool.and_eq_true] at p q
    unfold toPys PyData.eqvAll eqvDs
    rw [eqv_py n m d e p.1 q.1, eqvs_py n m ds es p.2 q.2]
end
theorem dp_at {μ : Mu} {d : D} {v : V} (s : Sat K α μ H) (p : plain 20 (deref d μ) = true) (r : Den K α (stb α μ H) d v) : Dp K H v (toPy (deref d μ)) ∧ SeqAt.shaped (toPy (deref d μ)) = true := by
  have fin : ∀ (S' : Stb) (_ : ∀ (a : Addr) (o : HO), S' a = some (true, o) → H a = some o) (d' : D), plain 20 d' = true → Den K α S' d' v → Dp K H v (toPy d') ∧ SeqAt.shaped (toPy d') = true := fun S' e d' p r => by
    obtain ⟨h1, h2⟩ := lay_of 20 d' v p r
    refine ⟨dp_of e 20 d' v p r, ?_⟩
    unfold SeqAt.shaped
    rw [h1, decide_eq_true (show (toPy d').depth ≤ 64 by omega)]
    rfl
  cases d with
  | own k =>
    cases e : moL μ[k]? with
    | none =>
      simp only [deref, e] at p
      cases p
    | some ds =>
      have e2 : deref (.own k) μ = .lst ds := by simp only [deref, e]
      rw [e2] at p ⊢
      exact fin _ (fun a o h => (stb_some h).1) _ p (s.frozen (moL_of e) r)
  | _ => exact fin _ (fun a o h => (stb_some h).1) _ p r
end
section
variable {X : Cx} {E : XK}
theorem d2_eq (hu : X.A.units + 64 < cLine) : D2 X E (compareOp .Eq) eqD := by
  refine ⟨_, op_eqD hu, fun x y H α dx dy μ Q s rx ry h => ?_⟩
  unfold eqD at h
  split at h
  · rename_i g
    rw [Bool.and_eq_true] at g
    obtain ⟨h1, h2⟩ := dp_at s g.1 rx
    obtain ⟨h3, h4⟩ := dp_at s g.2 ry
    refine ⟨_, _, h1, h3, h2, h4, ?_⟩
    rw [eqv_py 20 20 _ _ g.1 g.2]
    exact same_ok s .bl h
  · exact h.elim
theorem d2_ne (hu : X.A.units + 64 < cLine) : D2 X E (compareOp .NotEq) neD := by
  refine ⟨_, op_neD hu, fun x y H α dx dy μ Q s rx ry h => ?_⟩
  unfold neD at h
  split at h
  · rename_i g
    rw [Bool.and_eq_true] at g
    obtain ⟨h1, h2⟩ := dp_at s g.1 rx
    obtain ⟨h3, h4⟩ := dp_at s g.2 ry
    refine ⟨_, _, h1, h3, h2, h4, ?_⟩
    rw [eqv_py 20 20 _ _ g.1 g.2]
    exact same_ok s .bl h
  · exact h.elim
end
end Dt

/-! Dt4: in, subscripts, slices, built-in calls, methods of texts and lists, by data. -/
namespace Dt
open PySem PySem.Spec PyProof.Rows L2

/-! ### subscripts -/
def ixD : D → D → Mu → Out D
  | .str s, .int i, μ => match atI s i with
    | some c => .ok (.str [c]) μ
    | none => .bad
  | .tup ds, .int i, μ => match atI ds i with
    | some d => .ok d μ
    | none => .bad
  | x, .int i, μ => match getL x μ with
    | some ds => match atI ds i with
      | some d => .ok d μ
      | none => .bad
    | none => .bad
  | _, _, _ => .bad
section
variable {K : PySem.W.Frag} {α : Led} {S : Stb}
theorem atI_mem {β : Type} {xs : List β} {i : Int} {x : β} (h : atI xs i = some x) : x ∈ xs := by
  unfold atI at h
  cases e : ixN xs.length i with
  | none => rw [e] at h; cases h
  | some j => rw [e] at h; exact List.mem_of_getElem? h
theorem atI_den {ds : List D} {xs : List V} {i : Int} {d : D} (r : DenL K α S ds xs) (h : atI ds i = some d) : ∃ v, atI xs i = some v ∧ Den K α S d v := by
  unfold atI at h ⊢
  rw [← r.length]
  cases e : ixN ds.length i with
  | none => rw [e] at h; cases h
  | some j => rw [e] at h; exact r.get h
theorem TxOk.one {c : Nat} (h : c < 1114112) : TxOk [c] := ⟨by rw [sizeLine_eq]; exact (by decide : 1 ≤ 16777216), fun x hx => by rw [List.mem_singleton.mp hx]; exact h⟩
end
section
variable {X : Cx} {E : XK}
theorem ev_ix {K : PySem.W.Frag} : Ev2 K E (rIx K) ixD := by
  intro x y H α dx dy μ Q s rx ry h
  unfold ixD at h
  split at h
  · obtain ⟨rfl, o1⟩ := rx.str_inv
    obtain rfl := ry.int_inv
    split at h
    · rename_i c e
      exact .inr (.inr ⟨_, _, c, rfl, rfl, o1.1, e, same_ok s (.str (.one (o1.2 c (atI_mem e)))) h⟩)
    · exact h.elim
  · obtain ⟨a, xs, rfl, h1, h2⟩ := rx.tup_inv
    obtain rfl := ry.int_inv
    split at h
    · rename_i d e
      obtain ⟨v, e1, e2⟩ := atI_den h2 e
      exact .inr (.inl ⟨_, _, _, v, rfl, rfl, SqT.of (stb_some h1).1, e1, same_ok s e2 h⟩)
    · exact h.elim
  · obtain rfl := ry.int_inv
    split at h
    · rename_i ds e0
      obtain ⟨a, xs, rfl, h1, h2⟩ := getL_at e0 s rx
      split at h
      · rename_i d e
        obtain ⟨v, e1, e2⟩ := atI_den h2 e
        exact .inl ⟨_, _, _, v, rfl, rfl, SqL.of h1, e1, same_ok s e2 h⟩
      · exact h.elim
    · exact h.elim
  · exact h.elim
theorem de_ix {a b : Expr} {pos : Pos} {fa fb : FE} (ha : DE X E a fa) (hb : DE X E b fb) (hs : PlainIx b := by intro _ _; rfl) : DE X E (.Subscript a b pos) (op2 ixD fa fb) := by
  obtain ⟨ta, a1, a2⟩ := ha.ex
  obtain ⟨tb, b1, b2⟩ := hb.ex
  exact ⟨_, pe_ix ix_seq a1 b1 hs, ev_op2 ev_ix a2 b2⟩

/-! ### slices -/
def cutG {β : Type} (xs : List β) (lo hi : Option Int) : List β := (xs.drop (HT.sIx xs.length 0 lo)).take (HT.sIx xs.length xs.length hi - HT.sIx xs.length 0 lo)
abbrev FO := Env → Mu → Out (Option Int)
def EvO (K : PySem.W.Frag) (E : XK) (t : TO) (f : FO) : Prop := ∀ (σ : L2.St) (H : Hp) (α : Led) (ρ : Env) (μ : Mu) (Q : Option Int → Hp → Prop), Sat K α μ H → Loc K α (stb α μ H) σ ρ → Meets K E α (stb α μ H) (f ρ μ) (fun b _ _ H' => Q b H') → t σ H Q
structure DO (X : Cx) (E : XK) (e : Option Expr) (f : FO) : Prop where
  ex : ∃ t, PO X e t ∧ EvO X.K E t f
def noO : FO := fun _ μ => .ok none μ
def someO (fe : FE) : FO := fun ρ μ => (fe ρ μ).bind fun d μ1 => match d with
  | .int i => .ok (some i) μ1
  | _ => .bad
theorem do_none : DO X E none noO := ⟨_, po_none, fun σ H α ρ μ Q s l h => h _ _ s (Mo.refl _ _)⟩
theorem do_some {e : Expr} {fe : FE} (h : DE X E e fe) : DO X E (some e) (someO fe) := by
  obtain ⟨t, h1, h2⟩ := h.ex
  refine ⟨_, po_some h1, fun σ H α ρ μ Q s l hm => ?_⟩
  refine h2 σ H α ρ μ _ s l (hm.bind.mono fun d1 μ1 α1 H1 e1 s1 m1 q1 v1 r1 => ?_)
  split at q1
  · exact ⟨_, r1.int_inv, q1 _ _ s1 (Mo.refl _ _)⟩
  · exact q1.elim
def sliceD (b : Bool) : D → Option Int → Option Int → Mu → Out D
  | .str s, lo, hi, μ => .ok (.str (cutG s lo hi)) μ
  | x, lo, hi, μ => match getL x μ with
    | some ds => mkL b (cutG ds lo hi) μ
    | none => .bad
def slE (b : Bool) (fe : FE) (fl fh : FO) : FE := fun ρ μ => (fe ρ μ).bind fun d μ1 => (fl ρ μ1).bind fun lo μ2 => (fh ρ μ2).bind fun hi μ3 => sliceD b d lo hi μ3
theorem cutG_sub {β : Type} (xs : List β) (lo hi : Option Int) : (cutG xs lo hi).length ≤ xs.length ∧ ∀ x ∈ cutG xs lo hi, x ∈ xs := by
  unfold cutG
  refine ⟨by rw [List.length_take, List.length_drop]; omega, fun x hx => List.mem_of_mem_drop (List.mem_of_mem_take hx)⟩
theorem sl_ok {K : PySem.W.Frag} {b : Bool} {d : D} {o1 o2 : Option Int} {μ : Mu} {v : V} {H : Hp} {α : Led} {Q : VK} (s : Sat K α μ H) (r : Den K α (stb α μ H) d v) (h : Meets K E α (stb α μ H) (sliceD b d o1 o2 μ) (RD K Q)) :
    rSlS v o1 o2 H Q ∨ rSlL K v o1 o2 H Q := by
  cases d with
  | str u =>
    obtain ⟨rfl, o⟩ := r.str_inv
    refine .inl ⟨_, rfl, o.1, ?_⟩
    have hs := cutG_sub u o1 o2
    exact same_ok s (.str (o.sub hs.1 hs.2)) h
  | _ =>
    unfold sliceD at h
    simp only at h
    split at h
    · rename_i ds e0
      obtain ⟨a, xs, rfl, h1, h2⟩ := getL_at e0 s r
      refine .inr ⟨a, xs, rfl, SqL.of h1, ?_⟩
      refine mkL_ok s ?_ h
      unfold cutG cutV
      rw [← h2.length]
      exact (h2.drop _).take _
    · exact h.elim
theorem de_slice (b : Bool) {e : Expr} {lo hi : Option Expr} {p2 pos : Pos} {fe : FE} {fl fh : FO} (he : DE X E e fe) (hl : DO X E lo fl) (hh : DO X E hi fh) : DE X E (.Subscript e (.Slice lo hi none p2) pos) (slE b fe fl fh) := by
  obtain ⟨te, e1, e2⟩ := he.ex
  obtain ⟨tl, l1, l2⟩ := hl.ex
  obtain ⟨th, g1, g2⟩ := hh.ex
  refine ⟨_, pe_slice (SlR.or sl_str sl_list) e1 l1 g1, fun σ H α ρ μ Q s l hm => ?_⟩
  refine e2 σ H α ρ μ _ s l (hm.bind.mono fun d1 μ1 α1 H1 _ s1 m1 q1 v1 r1 => ?_)
  refine l2 σ H1 α1 ρ μ1 _ s1 (l.mono m1) (q1.bind.mono fun o1 μ2 α2 H2 _ s2 m2 q2 => ?_)
  refine g2 σ H2 α2 ρ μ2 _ s2 (l.mono (m1.trans m2)) (q2.bind.mono fun o2 μ3 α3 H3 _ s3 m3 q3 => ?_)
  exact sl_ok s3 (r1.mono (m2.trans m3)) q3

/-! ### in -/
def flatD : D → Bool
  | .non => true | .bl _ => true | .int _ => true | .str _ => true
  | _ => false
theorem flat_den {K : PySem.W.Frag} {α : Led} {S : Stb} {d : D} {v : V} (r : Den K α S d v) (f : flatD d = true) : flatV v = true := by
  cases d with
  | non => rw [r.non_inv]; rfl
  | bl b => rw [r.bl_inv]; rfl
  | int i => rw [r.int_inv]; rfl
  | str s => rw [r.str_inv.1]; rfl
  | _ => cases f
theorem flats_den {K : PySem.W.Frag} {α : Led} {S : Stb} : ∀ {ds : List D} {vs : List V}, DenL K α S ds vs → ds.all flatD = true → vs.all flatV = true
  | [], vs, r, f => by rw [r.nil_inv]; rfl
  | d :: ds, vs, r, f => by
    obtain ⟨v, t, rfl, h1, h2⟩ := r.cons_inv
    rw [List.all_cons, Bool.and_eq_true] at f ⊢
    exact ⟨flat_den h1 f.1, flats_den h2 f.2⟩
theorem eqV_den {K : PySem.W.Frag} {α : Led} {S : Stb} {d e : D} {v w : V} (r : Den K α S d v) (q : Den K α S e w) (f : flatD d = true) (g : flatD e = true) : eqV v w = eqvD d e := by
  cases d with
  | non =>
    obtain rfl := r.non_inv
    cases e with
    | non => obtain rfl := q.non_inv; rfl
    | bl b => obtain rfl := q.bl_inv; rfl
    | int i => obtain rfl := q.int_inv; rfl
    | str s => obtain ⟨rfl, _⟩ := q.str_inv; rfl
    | _ => cases g
  | bl b =>
    obtain rfl := r.bl_inv
    cases e with
    | non => obtain rfl := q.non_inv; rfl
    | bl b => obtain rfl := q.bl_inv; simp [eqV, eqvD]
    | int i => obtain rfl := q.int_inv; simp [eqV, eqvD]
    | str s => obtain ⟨rfl, _⟩ := q.str_inv; rfl
    | _ => cases g
  | int i =>
    obtain rfl := r.int_inv
    cases e with
    | non => obtain rfl := q.non_inv; rfl
    | bl b => obtain rfl := q.bl_inv; simp [eqV, eqvD]
    | int i => obtain rfl := q.int_inv; simp [eqV, eqvD]
    | str s => obtain ⟨rfl, _⟩ := q.str_inv; rfl
    | _ => cases g
  | str s =>
    obtain ⟨rfl, _⟩ := r.str_inv
    cases e with
    | non => obtain rfl := q.non_inv; rfl
    | bl b => obtain rfl := q.bl_inv; rfl
    | int i => obtain rfl := q.int_inv; rfl
    | str t => obtain ⟨rfl, _⟩ := q.str_inv; simp only [eqV, eqvD]; exact mkS_beq s t
    | _ => cases g
  | _ => cases f
theorem inV_den {K : PySem.W.Frag} {α : Led} {S : Stb} {x : D} {v : V} (r : Den K α S x v) (f : flatD x = true) : ∀ {ds : List D} {vs : List V}, DenL K α S ds vs → ds.all flatD = true → inV v vs = ds.any fun d => eqvD d x
  | [], vs, q, g => by rw [q.nil_inv]; rfl
  | d :: ds, vs, q, g => by
    obtain ⟨w, t, rfl, h1, h2⟩ := q.cons_inv
    rw [List.all_cons, Bool.and_eq_true] at g
    have ih := inV_den r f h2 g.2
    unfold inV at ih ⊢
    rw [List.any_cons, List.any_cons, ih, eqV_den h1 r g.1 f]
def memD (x : D) (ds : List D) : Bool := ds.any fun d => eqvD d x
def inD (neg : Bool) : D → D → Mu → Out D
  | .str [c], .str s, μ => .ok (.bl (xor neg (decide (c ∈ s)))) μ
  | x, .tup ds, μ => if flatD x && ds.all flatD then .ok (.bl (xor neg (memD x ds))) μ else .bad
  | x, y, μ => match getL y μ with
    | some ds => if flatD x && ds.all flatD then .ok (.bl (xor neg (memD x ds))) μ else .bad
    | none => .bad
theorem d2_in : D2 X E (compareOp .In) (inD false) := by
  refine ⟨_, OpR.or op_in_sign op_in_seq, fun x y H α dx dy μ Q s rx ry h => ?_⟩
  unfold inD at h
  split at h
  · obtain ⟨rfl, _⟩ := rx.str_inv
    obtain ⟨rfl, _⟩ := ry.str_inv
    rw [Bool.false_xor] at h
    exact .inl ⟨_, _, rfl, rfl, same_ok s .bl h⟩
  · obtain ⟨a, xs, rfl, h1, h2⟩ := ry.tup_inv
    split at h
    · rename_i g
      rw [Bool.and_eq_true] at g
      refine .inr ⟨a, xs, rfl, .inr (SqT.of (stb_some h1).1), flat_den rx g.1, flats_den h2 g.2, ?_⟩
      rw [if_neg Bool.false_ne_true, inV_den rx g.1 h2 g.2]
      rw [Bool.false_xor] at h
      exact same_ok s .bl h
    · exact h.elim
  · split at h
    · rename_i ds e0
      obtain ⟨a, xs, rfl, h1, h2⟩ := getL_at e0 s ry
      split at h
      · rename_i g
        rw [Bool.and_eq_true] at g
        refine .inr ⟨a, xs, rfl, .inl (SqL.of h1), flat_den rx g.1, flats_den h2 g.2, ?_⟩
        rw [if_neg Bool.false_ne_true, inV_den rx g.1 h2 g.2]
        rw [Bool.false_xor] at h
        exact same_ok s .bl h
      · exact h.elim
    · exact h.elim
theorem d2_notin : D2 X E (compareOp .NotIn) (inD true) := by
  refine ⟨_, OpR.or op_notIn_sign op_notIn_seq, fun x y H α dx dy μ Q s rx ry h => ?_⟩
  unfold inD at h
  split at h
  · obtain ⟨rfl, _⟩ := rx.str_inv
    obtain ⟨rfl, _⟩ := ry.str_inv
    rw [Bool.true_xor] at h
    exact .inl ⟨_, _, rfl, rfl, same_ok s .bl h⟩
  · obtain ⟨a, xs, rfl, h1, h2⟩ := ry.tup_inv
    split at h
    · rename_i g
      rw [Bool.and_eq_true] at g
      refine .inr ⟨a, xs, rfl, .inr (SqT.of (stb_some h1).1), flat_den rx g.1, flats_den h2 g.2, ?_⟩
      rw [if_pos rfl, inV_den rx g.1 h2 g.2]
      rw [Bool.true_xor] at h
      exact same_ok s .bl h
    · exact h.elim
  · split at h
    · rename_i ds e0
      obtain ⟨a, xs, rfl, h1, h2⟩ := getL_at e0 s ry
      split at h
      · rename_i g
        rw [Bool.and_eq_true] at g
        refine .inr ⟨a, xs, rfl, .inl (SqL.of h1), flat_den rx g.1, flats_den h2 g.2, ?_⟩
        rw [if_pos rfl, inV_den rx g.1 h2 g.2]
        rw [Bool.true_xor] at h
        exact same_ok s .bl h
      · exact h.elim
    · exact h.elim

/-! ### built-in calls -/
def lenD : FF := fun ds μ => match ds with
  | [.str s] => .ok (.int s.length) μ
  | [.tup ds] => .ok (.int ds.length) μ
  | [.lst ds] => .ok (.int ds.length) μ
  | [.own k] => match μ[k]? with
    | some (.lst ds) => .ok (.int ds.length) μ
    | some (.dK kvs) => .ok (.int kvs.length) μ
    | _ => .bad
  | _ => .bad
theorem DenL.one_inv {K : PySem.W.Frag} {α : Led} {S : Stb} {d : D} {vs : List V} (h : DenL K α S [d] vs) : ∃ v, vs = [v] ∧ Den K α S d v := by
  obtain ⟨v, r, rfl, h1, h2⟩ := h.cons_inv
  rw [h2.nil_inv]
  exact ⟨v, rfl, h1⟩
theorem DenL.two_inv {K : PySem.W.Frag} {α : Led} {S : Stb} {d e : D} {vs : List V} (h : DenL K α S [d, e] vs) : ∃ v w, vs = [v, w] ∧ Den K α S d v ∧ Den K α S e w := by
  obtain ⟨v, r, rfl, h1, h2⟩ := h.cons_inv
  obtain ⟨w, rfl, h3⟩ := h2.one_inv
  exact ⟨v, w, rfl, h1, h3⟩
theorem KD.length {K : PySem.W.Frag} {α : Led} {S : Stb} {κ κ' : Type} {f : κ → κ'} : ∀ {kvs : List (κ × D)} {ys : List (κ' × V)}, KD K α S f kvs ys → kvs.length = ys.length
  | [], ys, h => by cases (show ys = [] from h); rfl
  | p :: r, ys, h => by
    obtain ⟨v, t, rfl, h1, h2⟩ := h
    rw [List.length_cons, List.length_cons, KD.length h2]
theorem dc_len : DC X E (.builtin "len") lenD := by
  refine ⟨_, CallR.or call_len_seq (CallR.or call_len_str call_lenD), fun xs H α ds μ Q s r h => ?_⟩
  unfold lenD at h
  split at h
  · obtain ⟨v, rfl, r1⟩ := r.one_inv
    obtain ⟨rfl, o⟩ := r1.str_inv
    exact .inr (.inl ⟨_, rfl, o.1, same_ok s .int h⟩)
  · obtain ⟨v, rfl, r1⟩ := r.one_inv
    obtain ⟨a, xs, rfl, h1, h2⟩ := r1.tup_inv
    exact .inl ⟨a, xs, rfl, .inr (SqT.of (stb_some h1).1), by rw [← h2.length]; exact same_ok s .int h⟩
  · obtain ⟨v, rfl, r1⟩ := r.one_inv
    obtain ⟨a, xs, rfl, h1, h2⟩ := r1.lst_inv
    exact .inl ⟨a, xs, rfl, .inl (SqL.of (stb_some h1).1), by rw [← h2.length]; exact same_ok s .int h⟩
  · obtain ⟨v, rfl, r1⟩ := r.one_inv
    split at h
    · rename_i e
      obtain ⟨a, o, rfl, _, h1, xs, rfl, h2⟩ := own_at s r1 e rfl
      exact .inl ⟨a, xs, rfl, .inl (SqL.of h1), by rw [← h2.length]; exact same_ok s .int h⟩
    · rename_i e
      obtain ⟨a, o, rfl, _, h1, xs, rfl, h2⟩ := own_at s r1 e rfl
      exact .inr (.inr ⟨a, xs, rfl, h1, by rw [← h2.1.length]; exact same_ok s .int h⟩)
    · exact h.elim
  · exact h.elim
def max2D : FF := fun ds μ => match ds with
  | [.int i, .int j] => .ok (.int (max i j)) μ
  | _ => .bad
def min2D : FF := fun ds μ => match ds with
  | [.int i, .int j] => .ok (.int (min i j)) μ
  | _ => .bad
theorem dc_max2 (hc : X.calm = true) : DC X E (.builtin "max") max2D := by
  refine ⟨_, call_max2 hc, fun xs H α ds μ Q s r h => ?_⟩
  unfold max2D at h
  split at h
  · rename_i i j
    obtain ⟨v, w, rfl, r1, r2⟩ := r.two_inv
    obtain rfl := r1.int_inv
    obtain rfl := r2.int_inv
    refine ⟨_, _, rfl, ?_⟩
    rw [show (if j > i then j else i) = max i j by split <;> omega]
    exact same_ok s .int h
  · exact h.elim
theorem dc_min2 (hc : X.calm = true) : DC X E (.builtin "min") min2D := by
  refine ⟨_, call_min2 hc, fun xs H α ds μ Q s r h => ?_⟩
  unfold min2D at h
  split at h
  · rename_i i j
    obtain ⟨v, w, rfl, r1, r2⟩ := r.two_inv
    obtain rfl := r1.int_inv
    obtain rfl := r2.int_inv
    refine ⟨_, _, rfl, ?_⟩
    rw [show (if j < i then j else i) = min i j by split <;> omega]
    exact same_ok s .int h
  · exact h.elim
/-- int of a number, of a truth value -/
def intD : FF := fun ds μ => match ds with
  | [.int i] => .ok (.int i) μ
  | [.bl b] => .ok (.int (if b then 1 else 0)) μ
  | _ => .bad
theorem dc_int : DC X E (.type "int") intD := by
  refine ⟨_, call_int1, fun xs H α ds μ Q s r h => ?_⟩
  unfold intD at h
  split at h
  · obtain ⟨v, rfl, r1⟩ := r.one_inv
    obtain rfl := r1.int_inv
    exact .inl ⟨_, rfl, same_ok s .int h⟩
  · obtain ⟨v, rfl, r1⟩ := r.one_inv
    obtain rfl := r1.bl_inv
    exact .inr ⟨_, rfl, same_ok s .int h⟩
  · exact h.elim
/-- list of a list or a tuple; of the script -/
def getA (d : D) (μ : Mu) : Option (List D) := match d with
  | .lst ds => some ds
  | .tup ds => some ds
  | .scr ns => some (ns.map D.int)
  | .own k => moL μ[k]?
  | _ => none
theorem getA_at {K : PySem.W.Frag} {α : Led} {μ : Mu} {H : Hp} {d : D} {v : V} {ds : List D} (e : getA d μ = some ds) (s : Sat K α μ H) (r : Den K α (stb α μ H) d v) : ∃ a xs, v = .ref a ∧ (SqL K H a xs ∨ SqT K H a xs) ∧ DenL K α (stb α μ H) ds xs := by
  unfold getA at e
  split at e
  · cases e
    obtain ⟨a, xs, rfl, h1, h2⟩ := r.lst_inv
    exact ⟨a, xs, rfl, .inl (SqL.of (stb_some h1).1), h2⟩
  · cases e
    obtain ⟨a, xs, rfl, h1, h2⟩ := r.tup_inv
    exact ⟨a, xs, rfl, .inr (SqT.of (stb_some h1).1), h2⟩
  · cases e
    obtain ⟨a, rfl, h1⟩ := r.scr_inv
    refine ⟨a, _, rfl, .inl ?_, DenL.ints⟩
    rcases h1 with ⟨ob, h1⟩ | h1
    · exact .inl (.inr ⟨ob, (stb_some h1).1⟩)
    · exact .inr h1
  · obtain ⟨a, o, rfl, _, h1, xs, rfl, h2⟩ := own_at s r (moL_of e) rfl
    exact ⟨a, xs, rfl, .inl (SqL.of h1), h2⟩
  · cases e
def listD (b : Bool) : FF := fun ds μ => match ds with
  | [d] => match getA d μ with
    | some es => mkL b es μ
    | none => .bad
  | _ => .bad
theorem dc_list (b : Bool) : DC X E (.type "list") (listD b) := by
  refine ⟨_, call_list_of, fun xs H α ds μ Q s r h => ?_⟩
  unfold listD at h
  split at h
  · obtain ⟨v, rfl, r1⟩ := r.one_inv
    split at h
    · rename_i e
      obtain ⟨a, xs, rfl, h1, h2⟩ := getA_at e s r1
      exact ⟨a, xs, rfl, h1, mkL_ok s h2 h⟩
    · exact h.elim
  · exact h.elim
def tupleD : FF := fun ds μ => match ds with
  | [d] => match getA d μ with
    | some es => .ok (.tup es) μ
    | none => .bad
  | _ => .bad
theorem tuple_at {K : PySem.W.Frag} {α : Led} {μ : Mu} {H : Hp} {d : D} {v : V} {ds : List D} {Q : VK} (e : getA d μ = some ds) (s : Sat K α μ H) (r : Den K α (stb α μ H) d v) (h : Meets K E α (stb α μ H) (.ok (.tup ds) μ) (RD K Q)) :
    ∃ p ys, v = .ref p ∧ ((SqL K H p ys ∧ ∀ l, H l = none → Q (.ref l) (upd H l (.tup ys))) ∨ (SqT K H p ys ∧ Q (.ref p) H)) := by
  cases d with
  | tup ts =>
    obtain ⟨a, xs, rfl, h1, h2⟩ := r.tup_inv
    cases e
    exact ⟨a, xs, rfl, .inr ⟨SqT.of (stb_some h1).1, same_ok s r h⟩⟩
  | lst ts =>
    obtain ⟨a, xs, rfl, h1, h2⟩ := r.lst_inv
    cases e
    exact ⟨a, xs, rfl, .inl ⟨SqL.of (stb_some h1).1, tup_ok s h2 h⟩⟩
  | own k =>
    obtain ⟨a, o, rfl, _, h1, xs, rfl, h2⟩ := own_at s r (moL_of e) rfl
    exact ⟨a, xs, rfl, .inl ⟨SqL.of h1, tup_ok s h2 h⟩⟩
  | scr ns =>
    cases e
    obtain ⟨a, rfl, h1⟩ := r.scr_inv
    refine ⟨a, _, rfl, .inl ⟨?_, tup_ok s DenL.ints h⟩⟩
    rcases h1 with ⟨ob, h1⟩ | h1
    · exact .inl (.inr ⟨ob, (stb_some h1).1⟩)
    · exact .inr h1
  | _ => cases e
theorem dc_tuple : DC X E (.type "tuple") tupleD := by
  refine ⟨_, call_tuple_of, fun xs H α ds μ Q s r h => ?_⟩
  unfold tupleD at h
  split at h
  · obtain ⟨v, rfl, r1⟩ := r.one_inv
    split at h
    · rename_i e
      obtain ⟨p, ys, rfl, q⟩ := tuple_at e s r1 h
      exact ⟨p, ys, rfl, q⟩
    · exact h.elim
  · exact h.elim
def toInts : List D → Option (List Int)
  | [] => some []
  | .int i :: ds => (toInts ds).map (i :: ·)
  | _ :: _ => none
theorem toInts_of : ∀ {ds : List D} {ns : List Int}, toInts ds = some ns → ds = ns.map D.int
  | [], ns, h => by cases h; rfl
  | .int i :: ds, ns, h => by
    unfold toInts at h
    cases e : toInts ds with
    | none => rw [e] at h; cases h
    | some ms =>
      rw [e] at h
      cases h
      rw [toInts_of e]
      rfl
  | .non :: ds, ns, h => by cases h
  | .bl _ :: ds, ns, h => by cases h
  | .str _ :: ds, ns, h => by cases h
  | .lst _ :: ds, ns, h => by cases h
  | .tup _ :: ds, ns, h => by cases h
  | .own _ :: ds, ns, h => by cases h
  | .ref _ :: ds, ns, h => by cases h
  | .ty _ :: ds, ns, h => by cases h
  | .obj _ _ _ :: ds, ns, h => by cases h
  | .scr _ :: ds, ns, h => by cases h
theorem toInts_map (ns : List Int) : toInts (ns.map D.int) = some ns := by
  induction ns with
  | nil => rfl
  | cons n ns ih => rw [List.map_cons]; unfold toInts; rw [ih]; rfl
def ints1 (g : List Int → Mu → Out D) : FF := fun ds μ => match ds with
  | [d] => match getL d μ with
    | some es => match toInts es with
      | some ns => g ns μ
      | none => .bad
    | none => .bad
  | _ => .bad
theorem ints1_at {K : PySem.W.Frag} {α : Led} {μ : Mu} {H : Hp} {S : Stb} {ds : List D} {xs : List V} {g : List Int → Mu → Out D} {R : D → Mu → Led → Hp → Prop} (s : Sat K α μ H) (r : DenL K α (stb α μ H) ds xs) (h : Meets K E α S (ints1 g ds μ) R) :
    ∃ a ns, xs = [.ref a] ∧ H a = some (.lst (ns.map V.int)) ∧ Meets K E α S (g ns μ) R := by
  unfold ints1 at h
  split at h
  · obtain ⟨v, rfl, r1⟩ := r.one_inv
    split at h
    · rename_i e0
      split at h
      · rename_i ns e1
        obtain ⟨a, xs, rfl, h1, h2⟩ := getL_at e0 s r1
        rw [toInts_of e1] at h2
        rw [h2.ints_inv] at h1
        exact ⟨a, ns, rfl, h1, h⟩
      · exact h.elim
    · exact h.elim
  · exact h.elim
def sumD : FF := ints1 fun ns μ => .ok (.int ns.sum) μ
def maxLD : FF := ints1 fun ns μ => match ns.max? with
  | some m => .ok (.int m) μ
  | none => .bad
def minLD : FF := ints1 fun ns μ => match ns.min? with
  | some m => .ok (.int m) μ
  | none => .bad
theorem dc_sum (hc : X.calm = true) : DC X E (.builtin "sum") sumD := by
  refine ⟨_, cr_sum hc, fun xs H α ds μ Q s r h => ?_⟩
  obtain ⟨a, ns, rfl, h1, h2⟩ := ints1_at s r h
  exact ⟨a, ns, rfl, SqL.of h1, same_ok s .int h2⟩
theorem dc_maxL (hc : X.calm = true) : DC X E (.builtin "max") maxLD := by
  refine ⟨_, cr_max hc, fun xs H α ds μ Q s r h => ?_⟩
  obtain ⟨a, ns, rfl, h1, h2⟩ := ints1_at s r h
  split at h2
  · rename_i m e
    have em := List.max?_eq_some_iff.mp e
    refine ⟨a, ns, rfl, SqL.of h1, ?_, fun k hk hle => ?_⟩
    · cases ns with
      | nil => cases e
      | cons => simp
    · have : k = m := Int.le_antisymm (em.2 k hk) (hle m em.1)
      subst this
      exact same_ok s .int h2
  · exact h2.elim
theorem dc_minL (hc : X.calm = true) : DC X E (.builtin "min") minLD := by
  refine ⟨_, cr_min hc, fun xs H α ds μ Q s r h => ?_⟩
  obtain ⟨a, ns, rfl, h1, h2⟩ := ints1_at s r h
  split at h2
  · rename_i m e
    have em := List.min?_eq_some_iff.mp e
    refine ⟨a, ns, rfl, SqL.of h1, ?_, fun k hk hle => ?_⟩
    · cases ns with
      | nil => cases e
      | cons => simp
    · have : k = m := Int.le_antisymm (hle m em.1) (em.2 k hk)
      subst this
      exact same_ok s .int h2
  · exact h2.elim

/-! ### texts by their methods -/
def toStrs : List D → Option (List (List Nat))
  | [] => some []
  | .str s :: ds => (toStrs ds).map (s :: ·)
  | _ :: _ => none
theorem toStrs_of : ∀ {ds : List D} {ns : List (List Nat)}, toStrs ds = some ns → ds = ns.map D.str
  | [], ns, h => by cases h; rfl
  | .str i :: ds, ns, h => by
    unfold toStrs at h
    cases e : toStrs ds with
    | none => rw [e] at h; cases h
    | some ms =>
      rw [e] at h
      cases h
      rw [toStrs_of e]
      rfl
  | .non :: ds, ns, h => by cases h
  | .bl _ :: ds, ns, h => by cases h
  | .int _ :: ds, ns, h => by cases h
  | .lst _ :: ds, ns, h => by cases h
  | .tup _ :: ds, ns, h => by cases h
  | .own _ :: ds, ns, h => by cases h
  | .ref _ :: ds, ns, h => by cases h
  | .ty _ :: ds, ns, h => by cases h
  | .obj _ _ _ :: ds, ns, h => by cases h
  | .scr _ :: ds, ns, h => by cases h
theorem toStrs_map (ns : List (List Nat)) : toStrs (ns.map D.str) = some ns := by
  induction ns with
  | nil => rfl
  | cons n ns ih => rw [List.map_cons]; unfold toStrs; rw [ih]; rfl
/-- s.m(e) -/
def mth1 (g : D → D → Mu → Out D) (fo fe : FE) : FE := fun ρ μ => (fo ρ μ).bind fun x μ1 => match x with
  | .str s => (fe ρ μ1).bind fun y μ2 => g (.str s) y μ2
  | _ => .bad
def EvM1 (K : PySem.W.Frag) (E : XK) (r : V → List V → Hp → VK → Prop) (g : D → D → Mu → Out D) : Prop := ∀ (x y : V) (H : Hp) (α : Led) (dx dy : D) (μ : Mu) (Q : VK), Sat K α μ H → Den K α (stb α μ H) dx x → Den K α (stb α μ H) dy y → Meets K E α (stb α μ H) (g dx dy μ) (RD K Q) → r x [y] H Q
theorem ev_m1 {r : V → List V → Hp → VK → Prop} {to te : TE} {fo fe : FE} {g : D → D → Mu → Out D} {K : PySem.W.Frag} (h : EvM1 K E r g) (ho : EvE K E to fo) (he : EvE K E te fe) : EvE K E (tM1 r to te) (mth1 g fo fe) := by
  intro σ H α ρ μ Q s l hm
  refine ho σ H α ρ μ _ s l (hm.bind.mono fun d1 μ1 α1 H1 _ s1 m1 q1 v1 r1 => ?_)
  split at q1
  · obtain ⟨rfl, o⟩ := r1.str_inv
    refine ⟨⟨_, rfl⟩, ?_⟩
    refine he σ H1 α1 ρ μ1 _ s1 (l.mono m1) (q1.bind.mono fun d2 μ2 α2 H2 _ s2 m2 q2 v2 r2 => ?_)
    exact h _ _ H2 α2 _ _ μ2 Q s2 (r1.mono m2) r2 q2
  · exact q1.elim
def countD : D → D → Mu → Out D
  | .str s, .str [c], μ => .ok (.int (s.count c : Nat)) μ
  | _, _, _ => .bad
theorem cnt_count (c : Nat) : ∀ l : List Nat, PyProof.Rows.cnt c l = (l.count c : Nat)
  | [] => rfl
  | n :: r => by
    rw [PyProof.Rows.cnt_cons, cnt_count c r, List.count_cons]
    by_cases h : n = c
    · simp [h]; omega
    · simp [h]
theorem ev_count {K : PySem.W.Frag} : EvM1 K E (fun x xs H Q => ∃ a b, x = .str a ∧ xs = [.str b] ∧ Q (.int (Txt.count a b)) H) countD := by
  intro x y H α dx dy μ Q s rx ry h
  unfold countD at h
  split at h
  · rename_i u c
    obtain ⟨rfl, _⟩ := rx.str_inv
    obtain ⟨rfl, _⟩ := ry.str_inv
    refine ⟨_, _, rfl, rfl, ?_⟩
    rw [show Txt.count (mkS u) (mkS [c]) = (u.count c : Nat) from (PyProof.Rows.count_cnt (mkS u) c).trans (cnt_count c u)]
    exact same_ok s .int h
  · exact h.elim
theorem de_count {o e : Expr} {apos pos : Pos} {fo fe : FE} (ho : DE X E o fo) (he : DE X E e fe) (hs : starEach [e] X.env = [(false, eval e X.env)] := by rfl) (hbase : attributeBase o "count" X.env (eval o X.env) = eval o X.env := by rfl) (hline : (apos.endLine == pos.line) = true := by rfl) :
    DE X E (.Call (.Attribute o "count" apos) [e] [] pos) (mth1 countD fo fe) := by
  obtain ⟨ta, a1, a2⟩ := ho.ex
  obtain ⟨tb, b1, b2⟩ := he.ex
  exact ⟨_, pe_m1 F.slot_str_count F.type_str_count mt_count a1 b1 hs hbase hline, ev_m1 ev_count a2 b2⟩
def joinG (sep : List Nat) : List (List Nat) → List Nat
  | [] => []
  | [p] => p
  | p :: q :: r => p ++ (sep ++ joinG sep (q :: r))
def joinD : D → D → Mu → Out D
  | .str sep, d, μ => match getL d μ with
    | some es => match toStrs es with
      | some ss => if (ss.map List.length).sum + ss.length * sep.length ≤ 1000000 then .ok (.str (joinG sep ss)) μ else .bad
      | none => .bad
    | none => .bad
  | _, _, _ => .bad
theorem joinG_eq (sep : List Nat) : ∀ ss : List (List Nat), TL.joinL sep ss = joinG sep ss
  | [] => rfl
  | [p] => rfl
  | p :: q :: r => by
    unfold TL.joinL joinG
    rw [joinG_eq sep (q :: r)]
theorem joinG_len (sep : List Nat) : ∀ ss : List (List Nat), (joinG sep ss).length ≤ (ss.map List.length).sum + ss.length * sep.length
  | [] => by simp [joinG]
  | [p] => by simp [joinG]
  | p :: q :: r => by
    have := joinG_len sep (q :: r)
    unfold joinG
    rw [List.length_append, List.length_append, List.map_cons, List.sum_cons, List.length_cons, Nat.succ_mul]
    omega
theorem joinG_mem (sep : List Nat) {c : Nat} : ∀ {ss : List (List Nat)}, c ∈ joinG sep ss → c ∈ sep ∨ ∃ t ∈ ss, c ∈ t
  | [], h => by cases h
  | [p], h => .inr ⟨p, List.mem_singleton.mpr rfl, h⟩
  | p :: q :: r, h => by
    unfold joinG at h
    rcases List.mem_append.mp h with h | h
    · exact .inr ⟨p, List.mem_cons_self, h⟩
    · rcases List.mem_append.mp h with h | h
      · exact .inl h
      · rcases joinG_mem sep h with h | ⟨t, h1, h2⟩
        · exact .inl h
        · exact .inr ⟨t, List.mem_cons_of_mem _ h1, h2⟩
theorem map_tl_mkS (ss : List (List Nat)) : (ss.map mkS).map TL.tl = ss := by
  rw [List.map_map]
  exact (List.map_congr_left fun s _ => rfl).trans (List.map_id' ss)
theorem join_mkS (sep : List Nat) (ss : List (List Nat)) : Txt.join (mkS sep) (ss.map mkS) = mkS (joinG sep ss) := by
  have h : TL.tl (Txt.join (mkS sep) (ss.map mkS)) = joinG sep ss := by
    rw [TL.join_eq, TL.tl_join, map_tl_mkS]
    exact joinG_eq sep ss
  rw [← h]
  exact (mkS_of _).symm
theorem ev_join {K : PySem.W.Frag} : EvM1 K E (fun x xs H Q => ∃ a p, ∃ ys : List Str, x = .str a ∧ xs = [.ref p] ∧ (SqL K H p (ys.map V.str) ∨ SqT K H p (ys.map V.str)) ∧ (ys.map (·.length)).sum + ys.length * a.length ≤ 16777216 ∧ Q (.str (Txt.join a ys)) H) joinD := by
  intro x y H α dx dy μ Q s rx ry h
  unfold joinD at h
  split at h
  · rename_i sep
    split at h
    · rename_i e0
      split at h
      · rename_i ss e1
        split at h
        · rename_i hl
          obtain ⟨rfl, o1⟩ := rx.str_inv
          obtain ⟨a, xs, rfl, h1, h2⟩ := getL_at e0 s ry
          rw [toStrs_of e1] at h2
          obtain ⟨h3, o2⟩ := h2.strs_inv
          rw [h3] at h1
          refine ⟨mkS sep, a, ss.map mkS, rfl, rfl, .inl (SqL.of h1), ?_, ?_⟩
          · rw [List.map_map, List.length_map, mkS_len]
            show (ss.map List.length).sum + _ ≤ _
            omega
          · rw [join_mkS]
            refine same_ok s (.str ⟨?_, fun c hc => ?_⟩) h
            · have := joinG_len sep ss
              rw [sizeLine_eq]
              omega
            · rcases joinG_mem sep hc with q | ⟨t, q1, q2⟩
              · exact o1.2 c q
              · exact (o2 t q1).2 c q2
        · exact h.elim
      · exact h.elim
    · exact h.elim
  · exact h.elim
theorem de_join {o e : Expr} {apos pos : Pos} {fo fe : FE} (ho : DE X E o fo) (he : DE X E e fe) (hs : starEach [e] X.env = [(false, eval e X.env)] := by rfl) (hbase : attributeBase o "join" X.env (eval o X.env) = eval o X.env := by rfl) (hline : (apos.endLine == pos.line) = true := by rfl) :
    DE X E (.Call (.Attribute o "join" apos) [e] [] pos) (mth1 joinD fo fe) := by
  obtain ⟨ta, a1, a2⟩ := ho.ex
  obtain ⟨tb, b1, b2⟩ := he.ex
  exact ⟨_, pe_m1 F.slot_str_join F.type_str_join mt_join a1 b1 hs hbase hline, ev_m1 ev_join a2 b2⟩
end
end Dt

/-! Dt5: what changes: lists by their methods, dicts, fields; calls of the program's own defs. -/
namespace Dt
open PySem PySem.Spec PyProof.Rows L2

section
variable {X : Cx} {E : XK}
/-! ### a built-in type's method by values -/
/-- o.m(e, ..) of a mutable list -/
def mthL (g : D → FF) (fo : FE) (fa : FA) : FE := fun ρ μ => (fo ρ μ).bind fun x μ1 => match getL x μ1 with
  | some _ => (fa ρ μ1).bind fun ds μ2 => g x ds μ2
  | none => .bad
theorem ev_bmL {r : V → List V → Hp → VK → Prop} {g : D → FF} {to : TE} {t : TA} {fo : FE} {fa : FA} {K : PySem.W.Frag} (h : EvM K E r g) (ho : EvE K E to fo) (ha : EvA K E t fa) : EvE K E (tBM K "list" r to t) (mthL g fo fa) := by
  intro σ H α ρ μ Q s l hm
  refine ho σ H α ρ μ _ s l (hm.bind.mono fun d1 μ1 α1 H1 _ s1 m1 q1 v1 r1 => ?_)
  split at q1
  · rename_i e0
    obtain ⟨a, xs, rfl, h1, h2⟩ := getL_at e0 s1 r1
    refine ⟨.inl ⟨rfl, xs, SqL.of h1⟩, ?_⟩
    refine ha σ H1 α1 ρ μ1 _ s1 (l.mono m1) (q1.bind.mono fun d2 μ2 α2 H2 _ s2 m2 q2 v2 r2 => ?_)
    exact h _ _ H2 α2 _ _ μ2 Q s2 (r1.mono m2) r2 q2
  · exact q1.elim
theorem ev_bmL0 {r : V → List V → Hp → VK → Prop} {g : D → FF} {to : TE} {fo : FE} {K : PySem.W.Frag} (h : EvM K E r g) (ho : EvE K E to fo) : EvE K E (tBM0 K "list" r to) (mthL g fo nilA) := by
  intro σ H α ρ μ Q s l hm
  refine ho σ H α ρ μ _ s l (hm.bind.mono fun d1 μ1 α1 H1 _ s1 m1 q1 v1 r1 => ?_)
  split at q1
  · rename_i e0
    obtain ⟨a, xs, rfl, h1, h2⟩ := getL_at e0 s1 r1
    exact ⟨.inl ⟨rfl, xs, SqL.of h1⟩, h _ _ H1 α1 _ _ μ1 Q s1 r1 .nil q1⟩
  · exact q1.elim
def appendD : D → FF := fun x ds μ => match x, ds with
  | .own k, [y] => match μ[k]? with
    | some (.lst es) => if es.length < sizeLine then .ok .non (μ.set k (.lst (es ++ [y]))) else .bad
    | _ => .bad
  | _, _ => .bad
theorem dm_append {K : PySem.W.Frag} : EvM K E rAppend appendD := by
  intro x xs H α dx ds μ Q s rx rs h
  unfold appendD at h
  split at h
  · obtain ⟨v, rfl, r1⟩ := rs.one_inv
    split at h
    · rename_i e
      obtain ⟨a, o, rfl, ha, h1, ys, rfl, h2⟩ := own_at s rx e rfl
      split at h
      · rename_i hl
        obtain ⟨s1, m1⟩ := s.write (m' := .lst _) (o := .lst (ys ++ [v])) ha e rfl rfl ⟨_, rfl, h2.append (.cons r1 .nil)⟩
        exact ⟨a, ys, v, rfl, rfl, h1, by rw [← h2.length]; exact hl, h _ _ s1 m1 _ .non⟩
      · exact h.elim
    · exact h.elim
  · exact h.elim
theorem de_append {o e : Expr} {apos pos : Pos} {fo fe : FE} (ho : DE X E o fo) (he : DE X E e fe) (hbase : attributeBase o "append" X.env (eval o X.env) = eval o X.env := by rfl)
    (hfew : ((backTo pos (starEach [e] X.env)).all (fun x => !x.1) && (backToKw pos (keywordEach [] X.env)).all (fun x => x.1.isSome) && decide ([e].length + ([] : List Keyword).length + (if ([] : List Keyword).isEmpty then 0 else 1) < 30)) = true := by rfl)
    (hline : (apos.endLine == pos.line) = true := by rfl) (hs : starEach [e] X.env = (false, eval e X.env) :: starEach [] X.env := by rfl) :
    DE X E (.Call (.Attribute o "append" apos) [e] [] pos) (mthL appendD fo (consA fe nilA)) := by
  obtain ⟨ta, a1, a2⟩ := ho.ex
  obtain ⟨tb, b1, b2⟩ := (da_cons he da_nil hs).ex
  exact ⟨_, pe_bm PySem.F.plainAttrs_list PySem.F.slot_list_append PySem.F.type_list_append mt_append a1 b1 hbase hfew hline hs rfl, ev_bmL dm_append a2 b2⟩
def extendD : D → FF := fun x ds μ => match x, ds with
  | .own k, [y] => match μ[k]?, getL y μ with
    | some (.lst es), some fs => if es.length + fs.length ≤ sizeLine then .ok .non (μ.set k (.lst (es ++ fs))) else .bad
    | _, _ => .bad
  | _, _ => .bad
theorem dm_extend {K : PySem.W.Frag} : EvM K E rExtend extendD := by
  intro x xs H α dx ds μ Q s rx rs h
  unfold extendD at h
  split at h
  · obtain ⟨v, rfl, r1⟩ := rs.one_inv
    split at h
    · rename_i e e0
      obtain ⟨a, o, rfl, ha, h1, ys, rfl, h2⟩ := own_at s rx e rfl
      obtain ⟨b, zs, rfl, h3, h4⟩ := getL_at e0 s r1
      split at h
      · rename_i hl
        obtain ⟨s1, m1⟩ := s.write (m' := .lst _) (o := .lst (ys ++ zs)) ha e rfl rfl ⟨_, rfl, h2.append h4⟩
        exact ⟨a, b, ys, zs, rfl, rfl, h1, h3, by rw [← h2.length, ← h4.length]; exact hl, h _ _ s1 m1 _ .non⟩
      · exact h.elim
    · exact h.elim
  · exact h.elim
theorem de_extend {o e : Expr} {apos pos : Pos} {fo fe : FE} (ho : DE X E o fo) (he : DE X E e fe) (hbase : attributeBase o "extend" X.env (eval o X.env) = eval o X.env := by rfl)
    (hfew : ((backTo pos (starEach [e] X.env)).all (fun x => !x.1) && (backToKw pos (keywordEach [] X.env)).all (fun x => x.1.isSome) && decide ([e].length + ([] : List Keyword).length + (if ([] : List Keyword).isEmpty then 0 else 1) < 30)) = true := by rfl)
    (hline : (apos.endLine == pos.line) = true := by rfl) (hs : starEach [e] X.env = (false, eval e X.env) :: starEach [] X.env := by rfl) :
    DE X E (.Call (.Attribute o "extend" apos) [e] [] pos) (mthL extendD fo (consA fe nilA)) := by
  obtain ⟨ta, a1, a2⟩ := ho.ex
  obtain ⟨tb, b1, b2⟩ := (da_cons he da_nil hs).ex
  exact ⟨_, pe_bm PySem.F.plainAttrs_list PySem.F.slot_list_extend PySem.F.type_list_extend mt_extend a1 b1 hbase hfew hline hs rfl, ev_bmL dm_extend a2 b2⟩
def popD : D → FF := fun x ds μ => match x, ds with
  | .own k, [] => match μ[k]? with
    | some (.lst es) => match es[es.length - 1]? with
      | some d => .ok d (μ.set k (.lst es.dropLast))
      | none => .bad
    | _ => .bad
  | _, _ => .bad
theorem dm_pop {K : PySem.W.Frag} : EvM K E rPop popD := by
  intro x xs H α dx ds μ Q s rx rs h
  unfold popD at h
  split at h
  · obtain rfl := rs.nil_inv
    split at h
    · rename_i e
      obtain ⟨a, o, rfl, ha, h1, ys, rfl, h2⟩ := own_at s rx e rfl
      split at h
      · rename_i hd
        obtain ⟨v, h3, h4⟩ := h2.get hd
        obtain ⟨s1, m1⟩ := s.write (m' := .lst _) (o := .lst ys.dropLast) ha e rfl rfl ⟨_, rfl, h2.dropLast⟩
        exact ⟨a, ys, v, rfl, rfl, h1, by rw [← h2.length]; exact h3, h _ _ s1 m1 _ (h4.mono m1)⟩
      · exact h.elim
    · exact h.elim
  · exact h.elim
theorem de_pop {o : Expr} {apos pos : Pos} {fo : FE} (ho : DE X E o fo) (hbase : attributeBase o "pop" X.env (eval o X.env) = eval o X.env := by rfl) (hline : (apos.endLine == pos.line) = true := by rfl) :
    DE X E (.Call (.Attribute o "pop" apos) [] [] pos) (mthL popD fo nilA) := by
  obtain ⟨ta, a1, a2⟩ := ho.ex
  exact ⟨_, pe_bm0 PySem.F.plainAttrs_list PySem.F.slot_list_pop PySem.F.type_list_pop mt_pop a1 hbase hline, ev_bmL0 dm_pop a2⟩
def popAtD : D → FF := fun x ds μ => match x, ds with
  | .own k, [.int i] => match μ[k]? with
    | some (.lst es) => if -(2 ^ 63) ≤ i ∧ i < 2 ^ 63 then match seqIndex? i es.length with
      | some j => match es[j]? with
        | some d => .ok d (μ.set k (.lst (es.eraseIdx j)))
        | none => .bad
      | none => .bad else .bad
    | _ => .bad
  | _, _ => .bad
theorem dm_popAt {K : PySem.W.Frag} : EvM K E rPopAt popAtD := by
  intro x xs H α dx ds μ Q s rx rs h
  unfold popAtD at h
  split at h
  · obtain ⟨v, rfl, r1⟩ := rs.one_inv
    obtain rfl := r1.int_inv
    split at h
    · rename_i e
      obtain ⟨a, o, rfl, ha, h1, ys, rfl, h2⟩ := own_at s rx e rfl
      split at h
      · rename_i hb
        split at h
        · rename_i j hj
          split at h
          · rename_i hd
            obtain ⟨v, h3, h4⟩ := h2.get hd
            obtain ⟨s1, m1⟩ := s.write (m' := .lst _) (o := .lst (ys.eraseIdx j)) ha e rfl rfl ⟨_, rfl, h2.eraseIdx j⟩
            exact ⟨a, ys, _, j, v, rfl, rfl, h1, hb.1, hb.2, by rw [← h2.length]; exact hj, h3, h _ _ s1 m1 _ (h4.mono m1)⟩
          · exact h.elim
        · exact h.elim
      · exact h.elim
    · exact h.elim
  · exact h.elim
theorem de_popAt {o e : Expr} {apos pos : Pos} {fo fe : FE} (ho : DE X E o fo) (he : DE X E e fe) (hbase : attributeBase o "pop" X.env (eval o X.env) = eval o X.env := by rfl)
    (hfew : ((backTo pos (starEach [e] X.env)).all (fun x => !x.1) && (backToKw pos (keywordEach [] X.env)).all (fun x => x.1.isSome) && decide ([e].length + ([] : List Keyword).length + (if ([] : List Keyword).isEmpty then 0 else 1) < 30)) = true := by rfl)
    (hline : (apos.endLine == pos.line) = true := by rfl) (hs : starEach [e] X.env = (false, eval e X.env) :: starEach [] X.env := by rfl) :
    DE X E (.Call (.Attribute o "pop" apos) [e] [] pos) (mthL popAtD fo (consA fe nilA)) := by
  obtain ⟨ta, a1, a2⟩ := ho.ex
  obtain ⟨tb, b1, b2⟩ := (da_cons he da_nil hs).ex
  exact ⟨_, pe_bm PySem.F.plainAttrs_list PySem.F.slot_list_pop PySem.F.type_list_pop mt_popAt a1 b1 hbase hfew hline hs rfl, ev_bmL dm_popAt a2 b2⟩

/-! ### ghost: a mutable object is mutable no more -/
def frz (d : D) (μ : Mu) : Out D := match d with
  | .own k => match μ[k]? with
    | some (.lst ds) => .ok (.lst ds) (μ.set k .gone)
    | some (.ins C fs) => .ok (.obj C (fs.map (·.1)) (fs.map (·.2))) (μ.set k .gone)
    | _ => .bad
  | _ => .ok d μ
def frzE (fe : FE) : FE := fun ρ μ => (fe ρ μ).bind frz
theorem frz_ok {K : PySem.W.Frag} {α : Led} {d : D} {μ : Mu} {H : Hp} {Q : VK} (s : Sat K α μ H) (h : Meets K E α (stb α μ H) (frz d μ) (RD K Q)) : RD K Q d μ α H := by
  intro v r
  unfold frz at h
  split at h
  · split at h
    · rename_i e
      obtain ⟨s1, m1⟩ := s.freeze _
      exact h _ _ s1 m1 _ (s.frozen e r)
    · rename_i e
      obtain ⟨s1, m1⟩ := s.freeze _
      exact h _ _ s1 m1 _ (s.frozenI e r)
    · exact h.elim
  · exact same_ok s r h
theorem ev_frz {K : PySem.W.Frag} {t : TE} {fe : FE} (h : EvE K E t fe) : EvE K E t (frzE fe) := by
  intro σ H α ρ μ Q s l hm
  exact h σ H α ρ μ Q s l (hm.bind.mono fun d1 μ1 α1 H1 _ s1 m1 q1 => frz_ok s1 q1)
theorem de_frz {e : Expr} {fe : FE} (h : DE X E e fe) : DE X E e (frzE fe) := by
  obtain ⟨t, h1, h2⟩ := h.ex
  exact ⟨t, h1, ev_frz h2⟩

/-! ### instances -/
theorem KD.get {K : PySem.W.Frag} {α : Led} {S : Stb} {f : Str} {d : D} : ∀ {fs : List (Str × D)} {ys : List (Str × V)}, KD K α S id fs ys → fs.lookup f = some d → ∃ v, ys.lookup f = some v ∧ Den K α S d v
  | [], ys, h, e => by cases e
  | p :: r, ys, h, e => by
    obtain ⟨v, t, rfl, h1, h2⟩ := h
    obtain ⟨n, b⟩ := p
    by_cases q : (f == n) = true
    · rw [List.lookup_cons, q] at e
      cases e
      exact ⟨v, by show List.lookup f ((n, v) :: t) = _; rw [List.lookup_cons, q], h1⟩
    · have q' : (f == n) = false := by simpa using q
      rw [List.lookup_cons, q'] at e
      obtain ⟨w, h3, h4⟩ := KD.get h2 e
      exact ⟨w, by show List.lookup f ((n, v) :: t) = _; rw [List.lookup_cons, q']; exact h3, h4⟩
theorem KD.no {K : PySem.W.Frag} {α : Led} {S : Stb} {f : Str} : ∀ {fs : List (Str × D)} {ys : List (Str × V)}, KD K α S id fs ys → fs.lookup f = none → ys.lookup f = none
  | [], ys, h, e => by cases (show ys = [] from h); rfl
  | p :: r, ys, h, e => by
    obtain ⟨v, t, rfl, h1, h2⟩ := h
    obtain ⟨n, b⟩ := p
    by_cases q : (f == n) = true
    · rw [List.lookup_cons, q] at e
      cases e
    · have q' : (f == n) = false := by simpa using q
      rw [List.lookup_cons, q'] at e
      show List.lookup f ((n, v) :: t) = _
      rw [List.lookup_cons, q']
      exact KD.no h2 e
theorem zip_get {K : PySem.W.Frag} {α : Led} {S : Stb} {f : Str} {d : D} : ∀ {ns : List Str} {ds : List D} {xs : List V}, DenL K α S ds xs → (ns.zip ds).lookup f = some d → ∃ v, (ns.zip xs).lookup f = some v ∧ Den K α S d v
  | [], ds, xs, h, e => by simp at e
  | n :: ns, [], xs, h, e => by simp at e
  | n :: ns, b :: ds, xs, h, e => by
    obtain ⟨v, t, rfl, h1, h2⟩ := h.cons_inv
    rw [List.zip_cons_cons, List.lookup_cons] at e ⊢
    split at e
    · cases e
      exact ⟨v, rfl, h1⟩
    · exact zip_get h2 e
def fldD (C : Addr) (f : Str) (d : D) (μ : Mu) : Out D := match d with
  | .own k => match μ[k]? with
    | some (.ins C' fs) => if C' = C then match fs.lookup f with
      | some x => .ok x μ
      | none => .bad else .bad
    | _ => .bad
  | .obj C' ns ds => if C' = C then match (ns.zip ds).lookup f with
    | some x => .ok x μ
    | none => .bad else .bad
  | _ => .bad
theorem de_fld {C : Addr} {e : Expr} {f : Str} {pos : Pos} {fe : FE} (cl : Cls X.K C) (na : NoAttr X.K C f) (he : DE X E e fe) (hb : attributeBase e f X.env (eval e X.env) = eval e X.env := by rfl) : DE X E (.Attribute e f pos) (op1 (fldD C f) fe) := by
  obtain ⟨t, h1, h2⟩ := he.ex
  refine ⟨_, pe_fld h1 hb, fun σ H α ρ μ Q s l hm => ?_⟩
  refine h2 σ H α ρ μ _ s l (hm.bind.mono fun d1 μ1 α1 H1 _ s1 m1 q1 v1 r1 => ?_)
  unfold fldD at q1
  split at q1
  · split at q1
    · rename_i e
      obtain ⟨a, o, rfl, ha, h3, dx, ys, rfl, h4⟩ := own_at s1 r1 e rfl
      split at q1
      · rename_i hC
        subst hC
        split at q1
        · rename_i e2
          obtain ⟨v, h5, h6⟩ := h4.get e2
          exact ⟨a, _, dx, ys, v, rfl, h3, cl, na, h5, same_ok s1 h6 q1⟩
        · exact q1.elim
      · exact q1.elim
    · exact q1.elim
  · split at q1
    · rename_i hC
      subst hC
      split at q1
      · rename_i e2
        obtain ⟨a, dx, xs, rfl, h3, h4, h5⟩ := r1.obj_inv
        obtain ⟨v, h6, h7⟩ := zip_get h5 e2
        exact ⟨a, _, dx, _, v, rfl, (stb_some h3).1, cl, na, h6, same_ok s1 h7 q1⟩
      · exact q1.elim
    · exact q1.elim
  · exact q1.elim

/-! ### dicts -/
def valG {κ β : Type} [DecidableEq κ] (kvs : List (κ × β)) (k : κ) : Option β := (kvs.find? fun kv => decide (kv.1 = k)).map (·.2)
def putG {κ β : Type} [DecidableEq κ] (kvs : List (κ × β)) (k : κ) (v : β) : List (κ × β) :=
  if (kvs.any fun kv => decide (kv.1 = k)) = true then kvs.map (fun kv => if kv.1 = k then (kv.1, v) else kv) else kvs ++ [(k, v)]
def dropG {κ β : Type} [DecidableEq κ] (kvs : List (κ × β)) (k : κ) : List (κ × β) := kvs.filter fun kv => decide (kv.1 ≠ k)
section
variable {K : PySem.W.Frag} {α : Led} {S : Stb} {κ κ' : Type} [DecidableEq κ] [DecidableEq κ'] {f : κ → κ'}
theorem KD.val (inj : ∀ a b, f a = f b → a = b) (k : κ) : ∀ {kvs : List (κ × D)} {ys : List (κ' × V)}, KD K α S f kvs ys → (∀ d, valG kvs k = some d → ∃ v, valV ys (f k) = some v ∧ Den K α S d v) ∧ (valG kvs k = none → valV ys (f k) = none)
  | [], ys, h => by
    cases (show ys = [] from h)
    exact ⟨fun d e => by simp [valG] at e, fun _ => rfl⟩
  | p :: r, ys, h => by
    obtain ⟨v, t, rfl, h1, h2⟩ := h
    obtain ⟨ih1, ih2⟩ := KD.val inj k h2
    by_cases q : p.1 = k
    · have e1 : valG (p :: r) k = some p.2 := by simp [valG, List.find?_cons, q]
      have e2 : valV ((f p.1, v) :: t) (f k) = some v := valV_pos (by rw [q])
      refine ⟨fun d e => ?_, fun e => ?_⟩
      · rw [e1] at e
        cases e
        exact ⟨v, e2, h1⟩
      · rw [e1] at e
        cases e
    · have e1 : valG (p :: r) k = valG r k := by simp [valG, List.find?_cons, q]
      have e2 : valV ((f p.1, v) :: t) (f k) = valV t (f k) := valV_neg fun z => q (inj _ _ z)
      rw [e1, e2]
      exact ⟨ih1, ih2⟩
theorem KD.append {kvs kvs' : List (κ × D)} : ∀ {ys ys' : List (κ' × V)}, KD K α S f kvs ys → KD K α S f kvs' ys' → KD K α S f (kvs ++ kvs') (ys ++ ys') := by
  induction kvs with
  | nil =>
    intro ys ys' h h'
    cases (show ys = [] from h)
    exact h'
  | cons p r ih =>
    intro ys ys' h h'
    obtain ⟨v, t, rfl, h1, h2⟩ := h
    exact ⟨v, t ++ ys', rfl, h1, ih h2 h'⟩
theorem KD.any (inj : ∀ a b, f a = f b → a = b) (k : κ) : ∀ {kvs : List (κ × D)} {ys : List (κ' × V)}, KD K α S f kvs ys → (kvs.any fun kv => decide (kv.1 = k)) = (ys.any fun kv => decide (kv.1 = f k))
  | [], ys, h => by cases (show ys = [] from h); rfl
  | p :: r, ys, h => by
    obtain ⟨v, t, rfl, h1, h2⟩ := h
    rw [List.any_cons, List.any_cons, KD.any inj k h2]
    congr 1
    by_cases q : p.1 = k
    · simp [q]
    · have : ¬ f p.1 = f k := fun z => q (inj _ _ z)
      simp [q, this]
theorem KD.map (inj : ∀ a b, f a = f b → a = b) (k : κ) {d : D} {v : V} (rv : Den K α S d v) : ∀ {kvs : List (κ × D)} {ys : List (κ' × V)}, KD K α S f kvs ys → KD K α S f (kvs.map fun kv => if kv.1 = k then (kv.1, d) else kv) (ys.map fun kv => if kv.1 = f k then (kv.1, v) else kv)
  | [], ys, h => by cases (show ys = [] from h); rfl
  | p :: r, ys, h => by
    obtain ⟨w, t, rfl, h1, h2⟩ := h
    have ih := KD.map inj k rv h2
    by_cases q : p.1 = k
    · refine ⟨v, _, ?_, ?_, ih⟩
      · simp [q]
      · simp [q]; exact rv
    · have q' : ¬ f p.1 = f k := fun z => q (inj _ _ z)
      refine ⟨w, _, ?_, ?_, ih⟩
      · simp [q, q']
      · simp [q]; exact h1
theorem KD.put (inj : ∀ a b, f a = f b → a = b) (k : κ) {d : D} {v : V} (rv : Den K α S d v) {kvs : List (κ × D)} {ys : List (κ' × V)} (h : KD K α S f kvs ys) : KD K α S f (putG kvs k d) (putK ys (f k) v) := by
  unfold putG putK
  rw [KD.any inj k h]
  split
  · exact KD.map inj k rv h
  · exact KD.append h ⟨v, [], rfl, rv, rfl⟩
theorem KD.drop (inj : ∀ a b, f a = f b → a = b) (k : κ) : ∀ {kvs : List (κ × D)} {ys : List (κ' × V)}, KD K α S f kvs ys → KD K α S f (dropG kvs k) (dropK ys (f k))
  | [], ys, h => by cases (show ys = [] from h); rfl
  | p :: r, ys, h => by
    obtain ⟨w, t, rfl, h1, h2⟩ := h
    have ih := KD.drop inj k h2
    unfold dropG dropK at ih ⊢
    by_cases q : p.1 = k
    · rw [List.filter_cons_of_neg (by simp [q]), List.filter_cons_of_neg (by simp [q])]
      exact ih
    · have q' : ¬ f p.1 = f k := fun z => q (inj _ _ z)
      rw [List.filter_cons_of_pos (by simp [q]), List.filter_cons_of_pos (by simp [q'])]
      exact ⟨w, _, rfl, h1, ih⟩
end
theorem keysS_inj : ∀ {a b : List DKey}, a.map keyS = b.map keyS → a = b
  | [], [], _ => rfl
  | [], _ :: _, h => by cases h
  | _ :: _, [], h => by cases h
  | x :: a, y :: b, h => by
    rw [List.map_cons, List.map_cons] at h
    injection h with h1 h2
    rw [keyS_inj h1, keysS_inj h2]
def toKey : D → Option DKey
  | .int i => some (.inl i)
  | .str s => some (.inr s)
  | _ => none
def toKeys : List D → Option (List DKey)
  | [] => some []
  | d :: ds => match toKey d, toKeys ds with
    | some k, some ks => some (k :: ks)
    | _, _ => none
theorem toKey_at {K : PySem.W.Frag} {α : Led} {S : Stb} {d : D} {v : V} {k : DKey} (e : toKey d = some k) (r : Den K α S d v) : v = kV (keyS k) := by
  cases d with
  | int i => cases e; exact r.int_inv
  | str s => cases e; exact r.str_inv.1
  | _ => cases e
theorem toKey_ok {K : PySem.W.Frag} {α : Led} {S : Stb} {d : D} {v : V} {k : DKey} (e : toKey d = some k) (r : Den K α S d v) : KeyOk k := by
  cases d with
  | int i => cases e; exact True.intro
  | str s => cases e; exact r.str_inv.2
  | _ => cases e
theorem toKeys_ok {K : PySem.W.Frag} {α : Led} {S : Stb} : ∀ {ds : List D} {vs : List V} {ks : List DKey}, toKeys ds = some ks → DenL K α S ds vs → ∀ k ∈ ks, KeyOk k
  | [], vs, ks, e, r => by cases e; simp
  | d :: ds, vs, ks, e, r => by
    obtain ⟨v, t, rfl, h1, h2⟩ := r.cons_inv
    unfold toKeys at e
    split at e
    · rename_i k ks' e1 e2
      cases e
      intro q hq
      rcases List.mem_cons.mp hq with z | z
      · rw [z]; exact toKey_ok e1 h1
      · exact toKeys_ok e2 h2 q z
    · cases e
theorem putG_key {κ β : Type} [DecidableEq κ] {kvs : List (κ × β)} {k : κ} {v : β} {p : κ × β} (h : p ∈ putG kvs k v) : p.1 = k ∨ ∃ q ∈ kvs, q.1 = p.1 := by
  unfold putG at h
  split at h
  · obtain ⟨q, h1, h2⟩ := List.mem_map.mp h
    refine .inr ⟨q, h1, ?_⟩
    rw [← h2]
    split <;> rfl
  · rcases List.mem_append.mp h with h | h
    · exact .inr ⟨p, h, rfl⟩
    · rw [List.mem_singleton.mp h]; exact .inl rfl
theorem toKeys_at {K : PySem.W.Frag} {α : Led} {S : Stb} : ∀ {ds : List D} {vs : List V} {ks : List DKey}, toKeys ds = some ks → DenL K α S ds vs → vs = (ks.map keyS).map kV
  | [], vs, ks, e, r => by cases e; rw [r.nil_inv]; rfl
  | d :: ds, vs, ks, e, r => by
    obtain ⟨v, t, rfl, h1, h2⟩ := r.cons_inv
    unfold toKeys at e
    split at e
    · rename_i k ks' e1 e2
      cases e
      rw [toKey_at e1 h1, toKeys_at e2 h2]
      rfl
    · cases e
/-- what d holds at a key -/
def dgetD (x y : D) (μ : Mu) : Option (Option D) := match x with
  | .own k => match μ[k]?, y with
    | some (.dK kvs), .tup _ => none
    | some (.dK kvs), y => (toKey y).map (valG kvs)
    | some (.lck (.dK kvs)), y => (toKey y).map (valG kvs)
    | some (.dT kvs), .tup ds => (toKeys ds).map (valG kvs)
    | _, _ => none
  | _ => none
theorem dget_at {K : PySem.W.Frag} {α : Led} {μ : Mu} {H : Hp} {x y : D} {v w : V} {o : Option D} (e : dgetD x y μ = some o) (s : Sat K α μ H) (rx : Den K α (stb α μ H) x v) (ry : Den K α (stb α μ H) y w) :
    ∃ a r, v = .ref a ∧ IsD H a ∧ DGet H a w r ∧ ((∀ d, o = some d → ∃ u, r = some u ∧ Den K α (stb α μ H) d u) ∧ (o = none → r = none)) := by
  unfold dgetD at e
  split at e
  · split at e
    · cases e
    · rename_i hm _
      obtain ⟨a, ob, rfl, ha, h1, ys, rfl, h2⟩ := own_at s rx hm rfl
      rw [Option.map_eq_some_iff] at e
      obtain ⟨k, e1, e2⟩ := e
      subst e2
      refine ⟨a, _, rfl, .inl ⟨ys, .inl h1⟩, ?_, KD.val (fun _ _ => keyS_inj) k h2.1⟩
      rw [toKey_at e1 ry]
      exact DGet.k h1
    · rename_i hm
      obtain ⟨a, ob, rfl, ha, h1, oo, u, rfl, ys, rfl, h2⟩ := own_at s rx hm rfl
      rw [Option.map_eq_some_iff] at e
      obtain ⟨k, e1, e2⟩ := e
      subst e2
      refine ⟨a, _, rfl, .inl ⟨ys, .inr ⟨_, h1⟩⟩, ?_, KD.val (fun _ _ => keyS_inj) k h2.1⟩
      rw [toKey_at e1 ry]
      exact .inl ⟨ys, keyS k, .inr ⟨_, h1⟩, rfl, rfl⟩
    · rename_i hm
      obtain ⟨a, ob, rfl, ha, h1, ys, rfl, h2⟩ := own_at s rx hm rfl
      rw [Option.map_eq_some_iff] at e
      obtain ⟨k, e1, e2⟩ := e
      subst e2
      obtain ⟨b, xs, rfl, h3, h4⟩ := ry.tup_inv
      refine ⟨a, _, rfl, .inr ⟨ys, .inl h1⟩, ?_, KD.val (fun _ _ => keysS_inj) k h2.1⟩
      refine DGet.t h1 ?_
      rw [← toKeys_at e1 h4]
      exact (stb_some h3).1
    · cases e
  · cases e
def dixD (x y : D) (μ : Mu) : Out D := match dgetD x y μ with
  | some (some d) => .ok d μ
  | _ => .bad
theorem de_dix {o e : Expr} {pos : Pos} {fo fe : FE} (hu : X.A.units + 1 < cLine) (ho : DE X E o fo) (he : DE X E e fe) (hs : NoSl e := by intro _ _; rfl) : DE X E (.Subscript o e pos) (op2 dixD fo fe) := by
  obtain ⟨ta, a1, a2⟩ := ho.ex
  obtain ⟨tb, b1, b2⟩ := he.ex
  refine ⟨_, pe_dget hu a1 b1 hs, fun σ H α ρ μ Q s l hm => ?_⟩
  refine a2 σ H α ρ μ _ s l (hm.bind.mono fun d1 μ1 α1 H1 _ s1 m1 q1 v1 r1 => ?_)
  refine b2 σ H1 α1 ρ μ1 _ s1 (l.mono m1) (q1.bind.mono fun d2 μ2 α2 H2 _ s2 m2 q2 v2 r2 => ?_)
  unfold dixD at q2
  split at q2
  · rename_i e0
    obtain ⟨a, r, rfl, _, h1, h2⟩ := dget_at e0 s2 (r1.mono m2) r2
    obtain ⟨u, rfl, h3⟩ := h2.1 _ rfl
    exact ⟨a, u, rfl, h1, same_ok s2 h3 q2⟩
  · exact q2.elim
/-- d.get(k, x) -/
def dgetE (fo fk fx : FE) : FE := fun ρ μ => (fo ρ μ).bind fun x μ1 => if (dgetD x (.int 0) μ1).isSome || (dgetD x (.tup []) μ1).isSome then (fk ρ μ1).bind fun k μ2 => (fx ρ μ2).bind fun z μ3 => match dgetD x k μ3 with
  | some (some d) => .ok d μ3
  | some none => .ok z μ3
  | none => .bad else .bad
theorem isD_of {K : PySem.W.Frag} {α : Led} {μ : Mu} {H : Hp} {x : D} {v : V} (g : ((dgetD x (.int 0) μ).isSome || (dgetD x (.tup []) μ).isSome) = true) (s : Sat K α μ H) (rx : Den K α (stb α μ H) x v) : ∃ a, v = .ref a ∧ IsD H a := by
  cases x with
  | own k =>
    cases hm : μ[k]? with
    | none => simp [dgetD, hm] at g
    | some m =>
      cases m with
      | dK kvs =>
        obtain ⟨a, ob, rfl, ha, h1, ys, rfl, h2⟩ := own_at s rx hm rfl
        exact ⟨a, rfl, .inl ⟨ys, .inl h1⟩⟩
      | dT kvs =>
        obtain ⟨a, ob, rfl, ha, h1, ys, rfl, h2⟩ := own_at s rx hm rfl
        exact ⟨a, rfl, .inr ⟨ys, .inl h1⟩⟩
      | lck mm =>
        cases mm with
        | dK kvs =>
          obtain ⟨a, ob, rfl, ha, h1, oo, u, rfl, ys, rfl, h2⟩ := own_at s rx hm rfl
          exact ⟨a, rfl, .inl ⟨ys, .inr ⟨_, h1⟩⟩⟩
        | _ => simp [dgetD, hm] at g
      | _ => simp [dgetD, hm] at g
  | _ => simp [dgetD] at g
theorem de_dgetOr {o e f : Expr} {apos pos : Pos} {fo fe ff : FE} (hu : X.A.units + 1 < cLine) (ho : DE X E o fo) (he : DE X E e fe) (hf : DE X E f ff) (m : M2 X o "get" apos e f pos) : DE X E (.Call (.Attribute o "get" apos) [e, f] [] pos) (dgetE fo fe ff) := by
  obtain ⟨ta, a1, a2⟩ := ho.ex
  obtain ⟨tb, b1, b2⟩ := he.ex
  obtain ⟨tc, c1, c2⟩ := hf.ex
  refine ⟨_, pe_dget2 hu a1 b1 c1 m, fun σ H α ρ μ Q s l hm => ?_⟩
  refine a2 σ H α ρ μ _ s l (hm.bind.mono fun d1 μ1 α1 H1 _ s1 m1 q1 v1 r1 => ?_)
  split at q1
  · rename_i g
    obtain ⟨a, rfl, hd⟩ := isD_of g s1 r1
    refine ⟨a, rfl, hd, ?_⟩
    refine b2 σ H1 α1 ρ μ1 _ s1 (l.mono m1) (q1.bind.mono fun d2 μ2 α2 H2 _ s2 m2 q2 v2 r2 => ?_)
    refine c2 σ H2 α2 ρ μ2 _ s2 (l.mono (m1.trans m2)) (q2.bind.mono fun d3 μ3 α3 H3 _ s3 m3 q3 v3 r3 => ?_)
    split at q3
    · rename_i e0
      obtain ⟨a', r, e1, _, h1, h2⟩ := dget_at e0 s3 (r1.mono (m2.trans m3)) (r2.mono m3)
      cases e1
      obtain ⟨u, rfl, h3⟩ := h2.1 _ rfl
      exact ⟨_, h1, same_ok s3 h3 q3⟩
    · rename_i e0
      obtain ⟨a', r, e1, _, h1, h2⟩ := dget_at e0 s3 (r1.mono (m2.trans m3)) (r2.mono m3)
      cases e1
      rw [h2.2 rfl] at h1
      exact ⟨_, h1, same_ok s3 r3 q3⟩
    · exact q3.elim
  · exact q1.elim
def dinD (neg : Bool) (y x : D) (μ : Mu) : Out D := match dgetD x y μ with
  | some o => .ok (.bl (xor neg o.isSome)) μ
  | none => .bad
theorem isSome_of {K : PySem.W.Frag} {α : Led} {S : Stb} {o : Option D} {r : Option V} (h : (∀ d, o = some d → ∃ u, r = some u ∧ Den K α S d u) ∧ (o = none → r = none)) : r.isSome = o.isSome := by
  cases o with
  | none => rw [h.2 rfl]; rfl
  | some d =>
    obtain ⟨u, rfl, _⟩ := h.1 d rfl
    rfl
theorem ev_din {K : PySem.W.Frag} {ty td : TE} {fy fd : FE} (hy : EvE K E ty fy) (hd : EvE K E td fd) : EvE K E (tDIn ty td) (op2 (dinD false) fy fd) := by
  intro σ H α ρ μ Q s l hm
  refine hy σ H α ρ μ _ s l (hm.bind.mono fun d1 μ1 α1 H1 _ s1 m1 q1 v1 r1 => ?_)
  refine hd σ H1 α1 ρ μ1 _ s1 (l.mono m1) (q1.bind.mono fun d2 μ2 α2 H2 _ s2 m2 q2 v2 r2 => ?_)
  unfold dinD at q2
  split at q2
  · rename_i e0
    obtain ⟨a, r, rfl, _, h1, h2⟩ := dget_at e0 s2 r2 (r1.mono m2)
    refine ⟨a, r, rfl, h1, ?_⟩
    rw [isSome_of h2]
    rw [Bool.false_xor] at q2
    exact same_ok s2 .bl q2
  · exact q2.elim
theorem ev_dnotin {K : PySem.W.Frag} {ty td : TE} {fy fd : FE} (hy : EvE K E ty fy) (hd : EvE K E td fd) : EvE K E (tDNotIn ty td) (op2 (dinD true) fy fd) := by
  intro σ H α ρ μ Q s l hm
  refine hy σ H α ρ μ _ s l (hm.bind.mono fun d1 μ1 α1 H1 _ s1 m1 q1 v1 r1 => ?_)
  refine hd σ H1 α1 ρ μ1 _ s1 (l.mono m1) (q1.bind.mono fun d2 μ2 α2 H2 _ s2 m2 q2 v2 r2 => ?_)
  unfold dinD at q2
  split at q2
  · rename_i e0
    obtain ⟨a, r, rfl, _, h1, h2⟩ := dget_at e0 s2 r2 (r1.mono m2)
    refine ⟨a, r, rfl, h1, ?_⟩
    rw [isSome_of h2]
    rw [Bool.true_xor] at q2
    exact same_ok s2 .bl q2
  · exact q2.elim
theorem dt_din {i o : Expr} {pos : Pos} {fy fd : FE} (hu : X.A.units + 1 < cLine) (hy : DE X E i fy) (hd : DE X E o fd) (hb : behindInMarks .In o = false := by rfl) : DT X E (.Compare i [.In] [o] pos) (toB (op2 (dinD false) fy fd)) := by
  obtain ⟨ta, a1, a2⟩ := hy.ex
  obtain ⟨tb, b1, b2⟩ := hd.ex
  exact ⟨_, pt_cmp (pc_din hu a1 b1) hb, ev_test (ev_din a2 b2)⟩
theorem dt_dnotin {i o : Expr} {pos : Pos} {fy fd : FE} (hu : X.A.units + 1 < cLine) (hy : DE X E i fy) (hd : DE X E o fd) (hb : behindInMarks .NotIn o = false := by rfl) : DT X E (.Compare i [.NotIn] [o] pos) (toB (op2 (dinD true) fy fd)) := by
  obtain ⟨ta, a1, a2⟩ := hy.ex
  obtain ⟨tb, b1, b2⟩ := hd.ex
  exact ⟨_, pt_cmp (pc_dnotin hu a1 b1) hb, ev_test (ev_dnotin a2 b2)⟩
def dnewE (t : Bool) : FE := fun _ μ => .ok (.own μ.length) (μ ++ [if t then .dT [] else .dK []])
theorem de_dnew (t : Bool) {pos : Pos} : DE X E (.Dict [] [] pos) (dnewE t) := by
  cases t with
  | true =>
    refine ⟨_, pe_dnewT, fun σ H α ρ μ Q s l hm p hp => ?_⟩
    obtain ⟨s1, m1, h1⟩ := s.alloc hp (m := .dT []) (o := .dT []) ⟨[], rfl, rfl, by simp⟩
    exact hm _ _ s1 m1 _ (.own h1)
  | false =>
    refine ⟨_, pe_dnewK, fun σ H α ρ μ Q s l hm p hp => ?_⟩
    obtain ⟨s1, m1, h1⟩ := s.alloc hp (m := .dK []) (o := .dK []) ⟨[], rfl, rfl, by simp⟩
    exact hm _ _ s1 m1 _ (.own h1)

/-! ### calls of the program's own -/
def spOf (K : PySem.W.Frag) (n : Nat) (g : FF) : Sp := fun vs H Q E => vs.length = n ∧ ∃ (ds : List D) (α : Led) (μ : Mu), Sat K α μ H ∧ DenL K α (stb α μ H) ds vs ∧ Meets K E α (stb α μ H) (g ds μ) (RD K Q)
theorem spOf_len {K : PySem.W.Frag} {n : Nat} {g : FF} {vs : List V} {H : Hp} {Q : VK} {E : XK} (h : spOf K n g vs H Q E) : vs.length = n := h.1
/-- a def as it stands, with what it does -/
structure FnD (P : Program) (w : World) (K : PySem.W.Frag) (mg : Str → Option Value) (base : Heap) (CX : CXT) (k : Nat) (f : Addr) (fd : FuncData) (ps : List Str) (g : FF) : Prop where
  ok : FnOk P w K mg base CX k f fd ps (spOf K ps.length g)
  bd : Binds K fd ps []
  kp : PySem.W.keepIn K (.ref f) = true
def cllE (g : FF) (n : Nat) (fa : FA) : FE := fun ρ μ => (fa ρ μ).bind fun ds μ1 => if ds.length = n then g ds μ1 else .bad
theorem ev_cll {K : PySem.W.Frag} {n : Nat} {g : FF} {t : TA} {fa : FA} (ha : EvA K E t fa) : EvE K E (tCall (spOf K n g) [] E t) (cllE g n fa) := by
  intro σ H α ρ μ Q s l hm
  refine ha σ H α ρ μ _ s l (hm.bind.mono fun d1 μ1 α1 H1 _ s1 m1 q1 v1 r1 => ?_)
  split at q1
  · rename_i hl
    refine ⟨by rw [List.append_nil, ← r1.length]; exact hl, d1, α1, μ1, s1, by rw [List.append_nil]; exact r1, q1⟩
  · exact q1.elim
variable {CX : CXT} {k : Nat} {f : Addr} {fd : FuncData} {ps : List Str} {g : FF}
theorem de_call {x : Str} {p pos : Pos} {e : Expr} {es : List Expr} {fa : FA} (F : FnD X.prog X.w X.K X.mg X.base CX k f fd ps g) (hr : Room k X.A) (hm : X.mg x = some (.ref f)) (hx : Passes CX X E) (ha : DA X E (e :: es) fa) (hg : Gl X x := by rfl)
    (hdb : (x == ("__debug__" : Str)) = false := by decide) (he : starEach (e :: es) X.env = (false, eval e X.env) :: starEach es X.env := by rfl) (hpl : (backTo pos (starEach es X.env)).any (·.1) = false := by rfl) {n : Nat} (hn : ps.length = n := by rfl) :
    DE X E (.Call (.Name x p) (e :: es) [] pos) (cllE g n fa) := by
  subst hn
  obtain ⟨t, h1, h2⟩ := ha.ex
  exact ⟨_, pe_call F.ok hr hg hm F.kp F.bd .nil hx h1 hdb he hpl, ev_cll h2⟩
/-- o.m(..) -/
def isIns (C : Addr) (m : Str) (d : D) (μ : Mu) : Bool := match d with
  | .own k => match μ[k]? with
    | some (.ins C' fs) => decide (C' = C) && (fs.lookup m).isNone
    | _ => false
  | _ => false
def mthE (C : Addr) (m : Str) (g : FF) (n : Nat) (fo : FE) (fa : FA) : FE := fun ρ μ => (fo ρ μ).bind fun x μ1 => if isIns C m x μ1 then (fa ρ μ1).bind fun ds μ2 => if ds.length + 1 = n then g (x :: ds) μ2 else .bad else .bad
theorem isIns_at {K : PySem.W.Frag} {α : Led} {μ : Mu} {H : Hp} {C : Addr} {m : Str} {d : D} {v : V} (h : isIns C m d μ = true) (s : Sat K α μ H) (r : Den K α (stb α μ H) d v) : ∃ a dx fs, v = .ref a ∧ H a = some (.ins C dx fs) ∧ fs.lookup m = none := by
  unfold isIns at h
  split at h
  · split at h
    · rename_i e
      rw [Bool.and_eq_true] at h
      obtain ⟨a, o, rfl, ha, h1, dx, ys, rfl, h2⟩ := own_at s r e rfl
      have hC := of_decide_eq_true h.1
      subst hC
      exact ⟨a, dx, ys, rfl, h1, h2.no (by simpa using h.2)⟩
    · cases h
  · cases h
theorem de_meth {C : Addr} {m : Str} {o : Expr} {apos pos : Pos} {e : Expr} {es : List Expr} {fo : FE} {fa : FA} (cl : Cls X.K C) (hm : Meth X.K C m f) (F : FnD X.prog X.w X.K X.mg X.base CX k f fd ps g) (hr : Room k X.A) (hx : Passes CX X E) (ho : DE X E o fo) (ha : DA X E (e :: es) fa)
    {pl : Sem Bool} (hst : starEach (e :: es) X.env = (false, eval e X.env) :: starEach es X.env := by rfl) (hpl : (backTo pos (starEach es X.env)).any (·.1) = false := by rfl)
    (ht : eval (.Call (.Attribute o m apos) (e :: es) [] pos) X.env = (do
      let ov ← eval o X.env
      standAt apos.atName
      let (f, first) ← holding [ov] (getMethod ov m pl)
      callWith pos f first (backTo pos (starEach (e :: es) X.env)) (backToKw pos (keywordEach [] X.env))) := by rfl) {n : Nat} (hn : ps.length = n := by rfl) :
    DE X E (.Call (.Attribute o m apos) (e :: es) [] pos) (mthE C m g n fo fa) := by
  subst hn
  obtain ⟨to, o1, o2⟩ := ho.ex
  obtain ⟨t, h1, h2⟩ := ha.ex
  refine ⟨_, pe_meth o1 cl hm F.ok hr F.bd .nil hx h1 hst hpl ht, fun σ H α ρ μ Q s l hmt => ?_⟩
  refine o2 σ H α ρ μ _ s l (hmt.bind.mono fun d1 μ1 α1 H1 _ s1 m1 q1 v1 r1 => ?_)
  split at q1
  · rename_i g1
    obtain ⟨a, dx, fs, rfl, h3, h4⟩ := isIns_at g1 s1 r1
    refine ⟨a, dx, fs, rfl, h3, h4, ?_⟩
    refine h2 σ H1 α1 ρ μ1 _ s1 (l.mono m1) (q1.bind.mono fun d2 μ2 α2 H2 _ s2 m2 q2 v2 r2 => ?_)
    split at q2
    · rename_i hl
      refine ⟨by rw [List.append_nil, List.length_cons, ← r2.length]; exact hl, _, α2, μ2, s2, by rw [List.append_nil]; exact .cons (r1.mono m2) r2, q2⟩
    · exact q2.elim
  · exact q1.elim
theorem de_meth0 {C : Addr} {m : Str} {o : Expr} {apos pos : Pos} {fo : FE} (cl : Cls X.K C) (hm : Meth X.K C m f) (F : FnD X.prog X.w X.K X.mg X.base CX k f fd ps g) (hr : Room k X.A) (hx : Passes CX X E) (ho : DE X E o fo)
    {pl : Sem Bool} (ht : eval (.Call (.Attribute o m apos) [] [] pos) X.env = (do
      let ov ← eval o X.env
      standAt apos.atName
      let (f, first) ← holding [ov] (getMethod ov m pl)
      callWith pos f first (backTo pos (starEach [] X.env)) (backToKw pos (keywordEach [] X.env))) := by rfl) {n : Nat} (hn : ps.length = n := by rfl) :
    DE X E (.Call (.Attribute o m apos) [] [] pos) (mthE C m g n fo nilA) := by
  subst hn
  obtain ⟨to, o1, o2⟩ := ho.ex
  refine ⟨_, pe_meth0 o1 cl hm F.ok hr F.bd .nil hx ht, fun σ H α ρ μ Q s l hmt => ?_⟩
  refine o2 σ H α ρ μ _ s l (hmt.bind.mono fun d1 μ1 α1 H1 _ s1 m1 q1 v1 r1 => ?_)
  split at q1
  · rename_i g1
    obtain ⟨a, dx, fs, rfl, h3, h4⟩ := isIns_at g1 s1 r1
    refine ⟨a, dx, fs, rfl, h3, h4, ?_⟩
    have q2 : Meets X.K E α1 (stb α1 μ1 H1) (if ([] : List D).length + 1 = ps.length then g [d1] μ1 else .bad) (RD X.K Q) := q1
    split at q2
    · rename_i hl
      exact ⟨hl, [d1], α1, μ1, s1, .cons r1 .nil, q2⟩
    · exact q2.elim
  · exact q1.elim
/-- C(..) -/
def makeE (C : Addr) (g : FF) (n : Nat) (fa : FA) : FE := fun ρ μ => (fa ρ μ).bind fun ds μ1 => if ds.length + 1 = n then (g (.own μ1.length :: ds) (μ1 ++ [.ins C []])).bind fun r μ2 => if isN r then .ok (.own μ1.length) μ2 else .bad else .bad
theorem de_make {C : Addr} {x : Str} {p pos : Pos} {e : Expr} {es : List Expr} {fa : FA} (M : Mk X.K C f) (F : FnD X.prog X.w X.K X.mg X.base CX k f fd ps g) (hr : Room (k + 1) X.A) (hm : X.mg x = some (.ref C)) (hx : Passes CX X E) (ha : DA X E (e :: es) fa) (hg : Gl X x := by rfl)
    (hdb : (x == ("__debug__" : Str)) = false := by decide) (he : starEach (e :: es) X.env = (false, eval e X.env) :: starEach es X.env := by rfl) (hpl : (backTo pos (starEach es X.env)).any (·.1) = false := by rfl) {n : Nat} (hn : ps.length = n := by rfl) :
    DE X E (.Call (.Name x p) (e :: es) [] pos) (makeE C g n fa) := by
  subst hn
  obtain ⟨t, h1, h2⟩ := ha.ex
  refine ⟨_, pe_make M F.ok hr hg hm F.bd .nil hx h1 hdb he hpl, fun σ H α ρ μ Q s l hmt => ?_⟩
  refine h2 σ H α ρ μ _ s l (hmt.bind.mono fun d1 μ1 α1 H1 _ s1 m1 q1 v1 r1 => ?_)
  intro o dx no ndx ne
  split at q1
  · rename_i hl
    obtain ⟨s2, m2, _⟩ := s1.news ndx (o := .own o)
    have no' : (upd H1 dx (.own o)) o = none := by rw [upd_ne (Ne.symm ne)]; exact no
    obtain ⟨s3, m3, h3⟩ := s2.alloc no' (m := .ins C []) (o := .ins C dx []) ⟨dx, [], rfl, rfl⟩
    have m23 := m2.trans m3
    refine ⟨by rw [List.append_nil, List.length_cons, ← r1.length]; exact hl, _, _, _, s3, by rw [List.append_nil]; exact .cons (.own h3) (r1.mono m23), ?_⟩
    refine (Meets.rebase m23 q1).bind.mono fun d4 μ4 α4 H4 _ s4 m4 q4 v4 r4 => ?_
    split at q4
    · rename_i g4
      have := den_isN r4
      rw [g4] at this
      exact ⟨of_decide_eq_true this, same_ok s4 (.own (m4.pre _ _ h3)) q4⟩
    · exact q4.elim
  · exact q1.elim
end
end Dt

/-! Dt6: targets, statements, loops, comprehensions, defs, by data. -/
namespace Dt
open PySem PySem.Spec PyProof.Rows L2

inductive Fl where
  | nx (ρ : Env) | rt (d : D) | bk (ρ : Env) | ct (ρ : Env)
abbrev FS := Env → Mu → Out Fl
def RS (K : PySem.W.Frag) (Dn : Ends) : Fl → Mu → Led → Hp → Prop := fun fl μ α H => match fl with
  | .nx ρ => ∀ σ, Loc K α (stb α μ H) σ ρ → Dn.nx σ H
  | .rt d => ∀ v, Den K α (stb α μ H) d v → Dn.rt v H
  | .bk ρ => ∀ σ, Loc K α (stb α μ H) σ ρ → Dn.bk σ H
  | .ct ρ => ∀ σ, Loc K α (stb α μ H) σ ρ → Dn.ct σ H
def EvS (K : PySem.W.Frag) (E : XK) (t : TS) (f : FS) : Prop := ∀ (σ : L2.St) (H : Hp) (α : Led) (ρ : Env) (μ : Mu) (Dn : Ends), Sat K α μ H → Loc K α (stb α μ H) σ ρ → Meets K E α (stb α μ H) (f ρ μ) (RS K Dn) → t Dn σ H
structure DS (X : Cx) (E : XK) (st : Stmt) (f : FS) : Prop where
  ex : ∃ t, PS X st t ∧ EvS X.K E t f
structure DSs (X : Cx) (E : XK) (st : List Stmt) (f : FS) : Prop where
  ex : ∃ t, PSs X st t ∧ EvS X.K E t f

/-! ### blocks -/
def thenF (fl : Fl) (μ : Mu) (g : FS) : Out Fl := match fl with
  | .nx ρ => g ρ μ
  | .rt d => .ok (.rt d) μ
  | .bk ρ => .ok (.bk ρ) μ
  | .ct ρ => .ok (.ct ρ) μ
def seqS (f g : FS) : FS := fun ρ μ => (f ρ μ).bind fun fl μ1 => thenF fl μ1 g
def nilS : FS := fun ρ μ => .ok (.nx ρ) μ
def retS (fe : FE) : FS := fun ρ μ => (fe ρ μ).bind fun d μ1 => .ok (.rt d) μ1
def retNS : FS := fun _ μ => .ok (.rt .non) μ
def dropS (fe : FE) : FS := fun ρ μ => (fe ρ μ).bind fun _ μ1 => .ok (.nx ρ) μ1
def ifS (fc : FT) (f g : FS) : FS := fun ρ μ => (fc ρ μ).bind fun b μ1 => if b then f ρ μ1 else g ρ μ1
def brkS : FS := fun ρ μ => .ok (.bk ρ) μ
def contS : FS := fun ρ μ => .ok (.ct ρ) μ
def neverS : FS := fun _ _ => .bad
section
variable {X : Cx} {E : XK} {st : Stmt} {rest : List Stmt} {f g : FS} {fe : FE} {e : Expr} {pos : Pos}
theorem dss_nil : DSs X E [] nilS := ⟨_, pss_nil, fun σ H α ρ μ Dn s l h => h _ _ s (Mo.refl _ _) σ l⟩
theorem dss_one (h : DS X E st f) : DSs X E [st] f := by
  obtain ⟨t, h1, h2⟩ := h.ex
  exact ⟨t, pss_one h1, h2⟩
theorem dss_cons (h : DS X E st f) (h' : DSs X E rest g) : DSs X E (st :: rest) (seqS f g) := by
  obtain ⟨t, h1, h2⟩ := h.ex
  obtain ⟨u, h3, h4⟩ := h'.ex
  refine ⟨_, pss_cons h1 h3, fun σ H α ρ μ Dn s l hm => ?_⟩
  refine h2 σ H α ρ μ _ s l (hm.bind.mono fun fl μ1 α1 H1 ee1 s1 m1 q => ?_)
  cases fl with
  | nx ρ' => exact fun σ' l' => h4 σ' H1 α1 ρ' μ1 Dn s1 l' q
  | rt d => exact q _ _ s1 (Mo.refl _ _)
  | bk ρ' => exact q _ _ s1 (Mo.refl _ _)
  | ct ρ' => exact q _ _ s1 (Mo.refl _ _)
theorem ds_never : DS X E st neverS := ⟨_, ps_never, fun _ _ _ _ _ _ _ _ h => h⟩
theorem ds_pass : DS X E (.Pass pos) nilS := ⟨_, ps_pass, fun σ H α ρ μ Dn s l h => h _ _ s (Mo.refl _ _) σ l⟩
theorem ds_doc {x j pos'} : DS X E (.Expr (.Constant (.str x) j pos) pos') nilS := ⟨_, ps_doc, fun σ H α ρ μ Dn s l h => h _ _ s (Mo.refl _ _) σ l⟩
theorem ds_brk : DS X E (.Break pos) brkS := ⟨_, ps_break, fun σ H α ρ μ Dn s l h => h _ _ s (Mo.refl _ _) σ l⟩
theorem ds_cont : DS X E (.Continue pos) contS := ⟨_, ps_continue, fun σ H α ρ μ Dn s l h => h _ _ s (Mo.refl _ _) σ l⟩
theorem ds_ret (h : DE X E e fe) : DS X E (.Return (some e) pos) (retS fe) := by
  obtain ⟨t, h1, h2⟩ := h.ex
  refine ⟨_, ps_ret h1, fun σ H α ρ μ Dn s l hm => ?_⟩
  exact h2 σ H α ρ μ _ s l (hm.bind.mono fun d μ1 α1 H1 ee1 s1 m1 q => q _ _ s1 (Mo.refl _ _))
theorem ds_retN : DS X E (.Return none pos) retNS := ⟨_, ps_retN, fun σ H α ρ μ Dn s l h => h _ _ s (Mo.refl _ _) _ .non⟩
theorem ds_expr (h : DE X E e fe) (hs : swapsWith e none pos.line X.env = pure false := by rfl) : DS X E (.Expr e pos) (dropS fe) := by
  obtain ⟨t, h1, h2⟩ := h.ex
  refine ⟨_, ps_expr h1 hs, fun σ H α ρ μ Dn s l hm => ?_⟩
  exact h2 σ H α ρ μ _ s l (hm.bind.mono fun d μ1 α1 H1 ee1 s1 m1 q v r => q _ _ s1 (Mo.refl _ _) σ (l.mono m1))
theorem ds_if {c : Expr} {a b : List Stmt} {fc : FT} (hc : DT X E c fc) (ha : DSs X E a f) (hb : DSs X E b g) : DS X E (.If c a b pos) (ifS fc f g) := by
  obtain ⟨tc, c1, c2⟩ := hc.ex
  obtain ⟨ta, a1, a2⟩ := ha.ex
  obtain ⟨tb, b1, b2⟩ := hb.ex
  refine ⟨_, ps_if c1 a1 b1, fun σ H α ρ μ Dn s l hm => ?_⟩
  refine c2 σ H α ρ μ _ s l (hm.bind.mono fun d1 μ1 α1 H1 ee1 s1 m1 q => ?_)
  cases d1 with
  | true => exact a2 σ H1 α1 ρ μ1 Dn s1 (l.mono m1) q
  | false => exact b2 σ H1 α1 ρ μ1 Dn s1 (l.mono m1) q
end

/-! ### targets: names, tuples of names -/
abbrev FG := D → Env → Option Env
abbrev FGs := List D → Env → Option Env
def EvG (K : PySem.W.Frag) (g : TG) (is : List Nat) (f : FG) : Prop := ∀ (v : V) (σ : L2.St) (H : Hp) (S : Stb) (α : Led) (d : D) (ρ ρ' : Env) (Q : L2.St → Hp → Prop), (∀ (a : Addr) (o : HO), S a = some (true, o) → H a = some o) → Loc K α S σ ρ → Den K α S d v → f d ρ = some ρ' →
  (∀ σ', Loc K α S σ' ρ' → σ'.length = σ.length → (∀ j, j ∉ is → σ'[j]? = σ[j]?) → Q σ' H) → g v σ H Q
def EvGs (K : PySem.W.Frag) (g : TGs) (is : List Nat) (f : FGs) : Prop := ∀ (vs : List V) (σ : L2.St) (H : Hp) (S : Stb) (α : Led) (ds : List D) (ρ ρ' : Env) (Q : L2.St → Hp → Prop), (∀ (a : Addr) (o : HO), S a = some (true, o) → H a = some o) → Loc K α S σ ρ → DenL K α S ds vs → f ds ρ = some ρ' →
  (∀ σ', Loc K α S σ' ρ' → σ'.length = σ.length → (∀ j, j ∉ is → σ'[j]? = σ[j]?) → Q σ' H) → g vs σ H Q
structure DG (X : Cx) (tg : Expr) (is : List Nat) (f : FG) : Prop where
  ex : ∃ g, PG X tg g ∧ EvG X.K g is f
structure DGs (X : Cx) (tg : List Expr) (is : List Nat) (f : FGs) : Prop where
  ex : ∃ g, PGs X tg g ∧ EvGs X.K g is f
def nameG (i : Nat) : FG := fun d ρ => some (ρ.set i (some d))
def nilG : FGs := fun ds ρ => match ds with
  | [] => some ρ
  | _ => none
def consG (g : FG) (gs : FGs) : FGs := fun ds ρ => match ds with
  | [] => none
  | d :: r => (g d ρ).bind (gs r)
def tupG (n : Nat) (gs : FGs) : FG := fun d ρ => match d with
  | .tup ds => if ds.length = n then gs ds ρ else none
  | _ => none
section
variable {X : Cx} {pos : Pos}
theorem dg_name (i : Nat) {x : Str} (hN : X.N.Nodup) (hi : X.N[i]? = some x := by rfl) (hx : L2.Loc X.env.scope x := by first | exact Or.inl rfl | exact Or.inr rfl) (hf : X.fn x = true ∨ X.env.scope.names.lookup x = some .local := by first | exact .inl rfl | exact .inr rfl) : DG X (.Name x pos) [i] (nameG i) := by
  refine ⟨_, pg_name hN hi hx hf, fun v σ H S α d ρ ρ' Q e l r h q => ?_⟩
  cases h
  refine q _ (l.set r i) (List.length_set ..) fun j hj => ?_
  rw [List.getElem?_set_ne (fun z => hj (by rw [z]; exact List.mem_singleton.mpr rfl))]
theorem dgs_nil : DGs X [] [] nilG := by
  refine ⟨_, pgs_nil, fun vs σ H S α ds ρ ρ' Q e l r h q => ?_⟩
  cases ds with
  | nil =>
    cases h
    exact ⟨r.nil_inv, q σ l rfl fun _ _ => rfl⟩
  | cons => cases h
theorem dgs_cons {e : Expr} {es : List Expr} {is js : List Nat} {g : FG} {gs : FGs} (h : DG X e is g) (h' : DGs X es js gs) (hs : (assignEach (e :: es) X.env).map (·.2) = assign e X.env :: (assignEach es X.env).map (·.2) := by rfl) : DGs X (e :: es) (is ++ js) (consG g gs) := by
  obtain ⟨t, h1, h2⟩ := h.ex
  obtain ⟨u, h3, h4⟩ := h'.ex
  refine ⟨_, pgs_cons h1 h3 hs, fun vs σ H S α ds ρ ρ' Q e l r h q => ?_⟩
  cases ds with
  | nil => cases h
  | cons d ds =>
    obtain ⟨v, t, rfl, r1, r2⟩ := r.cons_inv
    have h0 : (g d ρ).bind (gs ds) = some ρ' := h
    rw [Option.bind_eq_some_iff] at h0
    obtain ⟨ρ1, e1, e2⟩ := h0
    refine ⟨v, t, rfl, ?_⟩
    refine h2 v σ H S α d ρ ρ1 _ e l r1 e1 fun σ1 l1 n1 k1 => ?_
    refine h4 t σ1 H S α ds ρ1 ρ' Q e l1 r2 e2 fun σ2 l2 n2 k2 => ?_
    exact q σ2 l2 (n2.trans n1) fun j hj => (k2 j fun z => hj (List.mem_append_right _ z)).trans (k1 j fun z => hj (List.mem_append_left _ z))
theorem dg_tup {es : List Expr} {k : Nat} {n : Nat} {is : List Nat} {gs : FGs} (hc : X.calm = true) (h : DGs X es is gs) (hn : (assignEach es X.env).length = n := by rfl) (hst : (assignEach es X.env).findIdx? (·.1) = none := by rfl) : DG X (.Tuple es k pos) is (tupG n gs) := by
  obtain ⟨t, h1, h2⟩ := h.ex
  refine ⟨_, pg_tup hc h1 hn hst, fun v σ H S α d ρ ρ' Q e l r h q => ?_⟩
  unfold tupG at h
  split at h
  · split at h
    · rename_i hl
      obtain ⟨a, xs, rfl, h3, h4⟩ := r.tup_inv
      exact ⟨a, xs, rfl, SqT.of (e _ _ h3), by rw [← h4.length]; exact hl, h2 xs σ H S α _ ρ ρ' Q e l h4 h q⟩
    · cases h
  · cases h
end
theorem stb_sub {α : Led} {μ : Mu} {H : Hp} : ∀ (a : Addr) (o : HO), stb α μ H a = some (true, o) → H a = some o := fun a o h => (stb_some h).1

/-! ### assignments -/
def asgS (fe : FE) (g : FG) : FS := fun ρ μ => (fe ρ μ).bind fun d μ1 => match g d ρ with
  | some ρ' => .ok (.nx ρ') μ1
  | none => .bad
section
variable {X : Cx} {E : XK} {pos : Pos}
theorem ev_asg {K : PySem.W.Frag} {te : TE} {tg : TG} {fe : FE} {is : List Nat} {g : FG} (h : EvE K E te fe) (hg : EvG K tg is g) : EvS K E (tAsg te tg) (asgS fe g) := by
  intro σ H α ρ μ Dn s l hm
  refine h σ H α ρ μ _ s l (hm.bind.mono fun d μ1 α1 H1 ee1 s1 m1 q v r => ?_)
  split at q
  · rename_i ρ' e
    exact hg v σ H1 _ α1 d ρ ρ' _ stb_sub (l.mono m1) r e fun σ' l' _ _ => q _ _ s1 (Mo.refl _ _) σ' l'
  · exact q.elim
theorem ds_set (i : Nat) {x : Str} {e : Expr} {fe : FE} {pos' : Pos} (hN : X.N.Nodup) (he : DE X E e fe) (hi : X.N[i]? = some x := by rfl) (hx : L2.Loc X.env.scope x := by first | exact Or.inl rfl | exact Or.inr rfl) (hs : swapsWith e (some (.Name x pos')) pos.line X.env = pure false := by rfl)
    (hf : X.fn x = true ∨ X.env.scope.names.lookup x = some .local := by first | exact .inl rfl | exact .inr rfl) : DS X E (.Assign [.Name x pos'] e pos) (asgS fe (nameG i)) := by
  obtain ⟨t, h1, h2⟩ := he.ex
  refine ⟨_, ps_set hN hi hx h1 hs hf, ev_asg (is := [i]) h2 fun v σ H S α d ρ ρ' Q e l r h q => ?_⟩
  cases h
  refine q _ (l.set r i) (List.length_set ..) fun j hj => ?_
  rw [List.getElem?_set_ne (fun z => hj (by rw [z]; exact List.mem_singleton.mpr rfl))]
theorem ds_asg {tg e : Expr} {fe : FE} {is : List Nat} {g : FG} (he : DE X E e fe) (hg : DG X tg is g) (hs : swapsWithSole [tg] e pos.line X.env = pure false := by rfl) (hw : swappedStores [tg] e X.env = pure none := by rfl) (h1 : (assignEach [tg] X.env).map (·.2) = [assign tg X.env] := by rfl) : DS X E (.Assign [tg] e pos) (asgS fe g) := by
  obtain ⟨t, e1, e2⟩ := he.ex
  obtain ⟨u, g1, g2⟩ := hg.ex
  exact ⟨_, ps_asg e1 g1 hs hw h1, ev_asg e2 g2⟩
/-- o[i] = e of a list -/
def setS (fe fo fi : FE) : FS := fun ρ μ => (fe ρ μ).bind fun d μ1 => (fo ρ μ1).bind fun x μ2 => (fi ρ μ2).bind fun i μ3 => match x, i with
  | .own k, .int n => match μ3[k]? with
    | some (.lst ds) => match ixN ds.length n with
      | some j => .ok (.nx ρ) (μ3.set k (.lst (ds.set j d)))
      | none => .bad
    | _ => .bad
  | _, _ => .bad
theorem ds_setIx {o i e : Expr} {fe fo fi : FE} {pos' : Pos} (he : DE X E e fe) (ho : DE X E o fo) (hi : DE X E i fi) (hs : swapsWithSole [.Subscript o i pos'] e pos.line X.env = pure false := by rfl) (hw : swappedStores [.Subscript o i pos'] e X.env = pure none := by rfl) (h1 : (assignEach [.Subscript o i pos'] X.env).map (·.2) = [assign (.Subscript o i pos') X.env] := by rfl)
    (ha : ∀ v, assign (.Subscript o i pos') X.env v = (do
      let ov ← holding [v] (eval o X.env)
      let iv ← holding [v, ov] (eval i X.env)
      standAt pos'
      holding [v, ov, iv] (setItem ov iv v)
      release [v, ov, iv] []) := by intro _; rfl) : DS X E (.Assign [.Subscript o i pos'] e pos) (setS fe fo fi) := by
  obtain ⟨t, e1, e2⟩ := he.ex
  obtain ⟨to, o1, o2⟩ := ho.ex
  obtain ⟨ti, i1, i2⟩ := hi.ex
  refine ⟨_, ps_asg e1 (pg_sub o1 i1 set_list ha) hs hw h1, fun σ H α ρ μ Dn s l hm => ?_⟩
  refine e2 σ H α ρ μ _ s l (hm.bind.mono fun d μ1 α1 H1 ee1 s1 m1 q v r => ?_)
  refine o2 σ H1 α1 ρ μ1 _ s1 (l.mono m1) (q.bind.mono fun x μ2 α2 H2 ee2 s2 m2 q2 v2 r2 => ?_)
  refine i2 σ H2 α2 ρ μ2 _ s2 (l.mono (m1.trans m2)) (q2.bind.mono fun n μ3 α3 H3 ee3 s3 m3 q3 v3 r3 => ?_)
  split at q3
  · obtain rfl := r3.int_inv
    split at q3
    · rename_i hk
      obtain ⟨a, ob, rfl, ha', h4, xs, rfl, h5⟩ := own_at s3 (r2.mono m3) hk rfl
      split at q3
      · rename_i j hj
        obtain ⟨s4, m4⟩ := s3.write (m' := .lst _) (o := .lst (xs.set j v)) ha' hk rfl rfl ⟨_, rfl, h5.set j (r.mono (m2.trans m3))⟩
        exact ⟨a, xs, _, j, rfl, rfl, h4, by rw [← h5.length]; exact hj, q3 _ _ s4 m4 σ (l.mono ((m1.trans m2).trans (m3.trans m4)))⟩
      · exact q3.elim
    · exact q3.elim
  · exact q3.elim
/-- o.f = e -/
def putFG (f : Str) (d : D) : List (Str × D) → List (Str × D)
  | [] => [(f, d)]
  | (g, w) :: r => if g = f then (g, d) :: r else (g, w) :: putFG f d r
theorem KD.putF {K : PySem.W.Frag} {α : Led} {S : Stb} {f : Str} {d : D} {v : V} (rv : Den K α S d v) : ∀ {fs : List (Str × D)} {ys : List (Str × V)}, KD K α S id fs ys → KD K α S id (putFG f d fs) (L2.putF f v ys)
  | [], ys, h => by
    cases (show ys = [] from h)
    exact ⟨v, [], rfl, rv, rfl⟩
  | (n, b) :: r, ys, h => by
    obtain ⟨w, t, rfl, h1, h2⟩ := h
    unfold putFG
    show KD K α S id _ (if n = f then (n, v) :: t else (n, w) :: L2.putF f v t)
    split
    · exact ⟨v, t, rfl, rv, h2⟩
    · exact ⟨w, _, rfl, h1, KD.putF rv h2⟩
def fldS (C : Addr) (f : Str) (fe fo : FE) : FS := fun ρ μ => (fe ρ μ).bind fun d μ1 => (fo ρ μ1).bind fun x μ2 => match x with
  | .own k => match μ2[k]? with
    | some (.ins C' fs) => if C' = C ∧ fs.length < 1000 then .ok (.nx ρ) (μ2.set k (.ins C (putFG f d fs))) else .bad
    | _ => .bad
  | _ => .bad
theorem ds_fld {C : Addr} {o e : Expr} {f : Str} {fe fo : FE} {pos' : Pos} (cl : Cls X.K C) (na : NoAttr X.K C f) (ho : DE X E o fo) (he : DE X E e fe) (hs : swapsWith e (some (.Attribute o f pos')) pos.line X.env = pure false := by rfl) : DS X E (.Assign [.Attribute o f pos'] e pos) (fldS C f fe fo) := by
  obtain ⟨t, e1, e2⟩ := he.ex
  obtain ⟨to, o1, o2⟩ := ho.ex
  refine ⟨_, ps_fld o1 e1 hs, fun σ H α ρ μ Dn s l hm => ?_⟩
  refine e2 σ H α ρ μ _ s l (hm.bind.mono fun d μ1 α1 H1 ee1 s1 m1 q v r => ?_)
  refine o2 σ H1 α1 ρ μ1 _ s1 (l.mono m1) (q.bind.mono fun x μ2 α2 H2 ee2 s2 m2 q2 v2 r2 => ?_)
  split at q2
  · split at q2
    · rename_i hk
      obtain ⟨a, ob, rfl, ha', h4, dx, ys, rfl, h5⟩ := own_at s2 r2 hk rfl
      split at q2
      · rename_i hc
        obtain ⟨rfl, hl⟩ := hc
        obtain ⟨s4, m4⟩ := s2.write (m' := .ins _ _) (o := .ins _ dx (L2.putF f v ys)) ha' hk rfl rfl ⟨dx, _, rfl, h5.putF (r.mono m2)⟩
        exact ⟨a, _, dx, ys, rfl, h4, cl, na, by rw [← h5.length]; exact hl, q2 _ _ s4 m4 σ (l.mono ((m1.trans m2).trans m4))⟩
      · exact q2.elim
    · exact q2.elim
  · exact q2.elim
/-- d[k] = e -/
def dputD (x y d : D) (μ : Mu) : Option Mu := match x with
  | .own k => match μ[k]?, y with
    | some (.dK kvs), .tup _ => none
    | some (.dK kvs), y => if kvs.length < sizeLine then (toKey y).map fun q => μ.set k (.dK (putG kvs q d)) else none
    | some (.dT kvs), .tup ds => if kvs.length < sizeLine then (toKeys ds).map fun q => μ.set k (.dT (putG kvs q d)) else none
    | _, _ => none
  | _ => none
def dputS (fe fo fk : FE) : FS := fun ρ μ => (fe ρ μ).bind fun d μ1 => (fo ρ μ1).bind fun x μ2 => (fk ρ μ2).bind fun y μ3 => match dputD x y d μ3 with
  | some μ4 => .ok (.nx ρ) μ4
  | none => .bad
theorem ds_dput {o i e : Expr} {fe fo fi : FE} {pos' : Pos} (hu : X.A.units + 1 < cLine) (he : DE X E e fe) (ho : DE X E o fo) (hi : DE X E i fi) (hs : swapsWith e (some (.Subscript o i pos')) pos.line X.env = pure false := by rfl) : DS X E (.Assign [.Subscript o i pos'] e pos) (dputS fe fo fi) := by
  obtain ⟨t, e1, e2⟩ := he.ex
  obtain ⟨to, o1, o2⟩ := ho.ex
  obtain ⟨ti, i1, i2⟩ := hi.ex
  refine ⟨_, ps_dput hu o1 i1 e1 hs, fun σ H α ρ μ Dn s l hm => ?_⟩
  refine e2 σ H α ρ μ _ s l (hm.bind.mono fun d μ1 α1 H1 ee1 s1 m1 q v r => ?_)
  refine o2 σ H1 α1 ρ μ1 _ s1 (l.mono m1) (q.bind.mono fun x μ2 α2 H2 ee2 s2 m2 q2 v2 r2 => ?_)
  refine i2 σ H2 α2 ρ μ2 _ s2 (l.mono (m1.trans m2)) (q2.bind.mono fun y μ3 α3 H3 ee3 s3 m3 q3 v3 r3 => ?_)
  split at q3
  · rename_i μ4 e0
    unfold dputD at e0
    split at e0
    · split at e0
      · cases e0
      · rename_i hk _
        split at e0
        · rename_i hl
          rw [Option.map_eq_some_iff] at e0
          obtain ⟨kk, e3, e4⟩ := e0
          subst e4
          obtain ⟨a, ob, rfl, ha', h4, ys, rfl, h5⟩ := own_at s3 (r2.mono m3) hk rfl
          obtain ⟨s4, m4⟩ := s3.write (m' := .dK _) (o := .dK (putK ys (keyS kk) v)) ha' hk rfl rfl ⟨_, rfl, h5.1.put (fun _ _ => keyS_inj) kk (r.mono (m2.trans m3)), fun p hp => by
            rcases putG_key hp with z | ⟨q, z1, z2⟩
            · rw [z]; exact toKey_ok e3 r3
            · rw [← z2]; exact h5.2 q z1⟩
          refine ⟨a, _, rfl, ?_, q3 _ _ s4 m4 σ (l.mono ((m1.trans m2).trans (m3.trans m4)))⟩
          rw [toKey_at e3 r3]
          exact DPut.k h4 (by rw [← h5.1.length]; exact hl)
        · cases e0
      · rename_i hk
        split at e0
        · rename_i hl
          rw [Option.map_eq_some_iff] at e0
          obtain ⟨kk, e3, e4⟩ := e0
          subst e4
          obtain ⟨a, ob, rfl, ha', h4, ys, rfl, h5⟩ := own_at s3 (r2.mono m3) hk rfl
          obtain ⟨b, xs, rfl, h6, h7⟩ := r3.tup_inv
          obtain ⟨s4, m4⟩ := s3.write (m' := .dT _) (o := .dT (putK ys (kk.map keyS) v)) ha' hk rfl rfl ⟨_, rfl, h5.1.put (fun _ _ => keysS_inj) kk (r.mono (m2.trans m3)), fun p hp => by
            rcases putG_key hp with z | ⟨q, z1, z2⟩
            · rw [z]; exact toKeys_ok e3 h7
            · rw [← z2]; exact h5.2 q z1⟩
          refine ⟨a, _, rfl, ?_, q3 _ _ s4 m4 σ (l.mono ((m1.trans m2).trans (m3.trans m4)))⟩
          refine DPut.t h4 ?_ (by rw [← h5.1.length]; exact hl)
          rw [← toKeys_at e3 h7]
          exact (stb_some h6).1
        · cases e0
      · cases e0
    · cases e0
  · exact q3.elim
end

/-! ### while -/
def whileN (fc : FT) (fb : FS) : Nat → FS
  | 0 => fun _ _ => .bad
  | n + 1 => fun ρ μ => (fc ρ μ).bind fun b μ1 => if b then (fb ρ μ1).bind fun fl μ2 => match fl with
    | .nx ρ' => whileN fc fb n ρ' μ2
    | .ct ρ' => whileN fc fb n ρ' μ2
    | .bk ρ' => .ok (.nx ρ') μ2
    | .rt d => .ok (.rt d) μ2 else .ok (.nx ρ) μ1
def isBad {β : Type} : Out β → Bool
  | .bad => true
  | _ => false
open Classical in
noncomputable def whileS (fc : FT) (fb : FS) : FS := fun ρ μ => if h : ∃ n, isBad (whileN fc fb n ρ μ) = false then whileN fc fb (Classical.choose h) ρ μ else .bad
theorem Out.bind_nb {β γ : Type} {o : Out β} {k : β → Mu → Out γ} (h : isBad (o.bind k) = false) : isBad o = false := by cases o <;> first | rfl | exact h
theorem Out.bind_congr {β γ : Type} {o : Out β} {k k' : β → Mu → Out γ} (h : ∀ b μ, o = .ok b μ → k b μ = k' b μ) : o.bind k = o.bind k' := by
  cases o with
  | ok b μ => exact h b μ rfl
  | exc c pl μ => rfl
  | bad => rfl
theorem whileN_mono (fc : FT) (fb : FS) : ∀ (n : Nat) (ρ : Env) (μ : Mu), isBad (whileN fc fb n ρ μ) = false → whileN fc fb (n + 1) ρ μ = whileN fc fb n ρ μ
  | 0, ρ, μ, h => by cases h
  | n + 1, ρ, μ, h => by
    show ((fc ρ μ).bind _) = ((fc ρ μ).bind _)
    refine Out.bind_congr fun b μ1 e1 => ?_
    have h1 : isBad ((fc ρ μ).bind fun b μ1 => if b then (fb ρ μ1).bind fun fl μ2 => match fl with
      | .nx ρ' => whileN fc fb n ρ' μ2
      | .ct ρ' => whileN fc fb n ρ' μ2
      | .bk ρ' => .ok (.nx ρ') μ2
      | .rt d => .ok (.rt d) μ2 else .ok (.nx ρ) μ1) = false := h
    rw [e1, Out.bind_ok] at h1
    cases b with
    | false => rfl
    | true =>
      rw [if_pos rfl] at h1
      show ((fb ρ μ1).bind _) = ((fb ρ μ1).bind _)
      refine Out.bind_congr fun fl μ2 e2 => ?_
      rw [e2, Out.bind_ok] at h1
      cases fl with
      | nx ρ' => exact whileN_mono fc fb n ρ' μ2 h1
      | ct ρ' => exact whileN_mono fc fb n ρ' μ2 h1
      | bk ρ' => rfl
      | rt d => rfl
theorem whileN_le (fc : FT) (fb : FS) {n m : Nat} (ρ : Env) (μ : Mu) (h : isBad (whileN fc fb n ρ μ) = false) (hl : n ≤ m) : whileN fc fb m ρ μ = whileN fc fb n ρ μ := by
  induction hl with
  | refl => rfl
  | step _ ih => rw [whileN_mono fc fb _ ρ μ (by rw [ih]; exact h), ih]
theorem whileS_eq {fc : FT} {fb : FS} {n : Nat} {ρ : Env} {μ : Mu} (h : isBad (whileN fc fb n ρ μ) = false) : whileS fc fb ρ μ = whileN fc fb n ρ μ := by
  unfold whileS
  have hx : ∃ n, isBad (whileN fc fb n ρ μ) = false := ⟨n, h⟩
  rw [dif_pos hx]
  have hc := Classical.choose_spec hx
  rcases Nat.le_total n (Classical.choose hx) with hl | hl
  · exact whileN_le fc fb ρ μ h hl
  · exact (whileN_le fc fb ρ μ hc hl).symm
section
variable {X : Cx} {E : XK} {pos : Pos}
theorem ev_whileN {K : PySem.W.Frag} {tc : TT} {tb : TS} {fc : FT} {fb : FS} (hc : EvT K E tc fc) (hb : EvS K E tb fb) (n : Nat) {σ : L2.St} {H : Hp} {α : Led} {ρ : Env} {μ : Mu} {Dn : Ends} (s : Sat K α μ H) (l : Loc K α (stb α μ H) σ ρ) (h : Meets K E α (stb α μ H) (whileN fc fb n ρ μ) (RS K Dn)) : tWhile tc tb Dn σ H := by
  refine ⟨fun m σ' H' => ∃ α' ρ' μ', Sat K α' μ' H' ∧ Loc K α' (stb α' μ' H') σ' ρ' ∧ Meets K E α' (stb α' μ' H') (whileN fc fb m ρ' μ') (RS K Dn), ⟨n, α, ρ, μ, s, l, h⟩, ?_⟩
  rintro m σ1 H1 ⟨α1, ρ1, μ1, s1, l1, h1⟩
  cases m with
  | zero => exact h1.elim
  | succ m =>
    refine hc σ1 H1 α1 ρ1 μ1 _ s1 l1 ((Meets.bind (o := fc ρ1 μ1) h1).mono fun b μ2 α2 H2 ee2 s2 m2 q => ?_)
    cases b with
    | false => exact q _ _ s2 (Mo.refl _ _) σ1 (l1.mono m2)
    | true =>
      rw [if_pos rfl] at q ⊢
      refine ⟨fun σ' H' => ∃ α' ρ' μ', Sat K α' μ' H' ∧ Loc K α' (stb α' μ' H') σ' ρ' ∧ Meets K E α' (stb α' μ' H') (whileN fc fb m ρ' μ') (RS K Dn), fun σ' H' z => ⟨m, Nat.lt_succ_self m, z⟩, ?_⟩
      refine hb σ1 H2 α2 ρ1 μ2 _ s2 (l1.mono m2) (q.bind.mono fun fl μ3 α3 H3 ee3 s3 m3 q3 => ?_)
      cases fl with
      | nx ρ' => exact fun σ' l' => ⟨α3, ρ', μ3, s3, l', q3⟩
      | ct ρ' => exact fun σ' l' => ⟨α3, ρ', μ3, s3, l', q3⟩
      | bk ρ' => exact fun σ' l' => q3 _ _ s3 (Mo.refl _ _) σ' l'
      | rt d => exact q3 _ _ s3 (Mo.refl _ _)
theorem ds_while {c : Expr} {body : List Stmt} {fc : FT} {fb : FS} (hp : PassesOwn (model X.prog X.w) X.A X.env X.xe) (hc : DT X E c fc) (hb : DSs X E body fb) : DS X E (.While c body [] pos) (whileS fc fb) := by
  obtain ⟨tc, c1, c2⟩ := hc.ex
  obtain ⟨tb, b1, b2⟩ := hb.ex
  refine ⟨_, ps_while hp c1 b1, fun σ H α ρ μ Dn s l hm => ?_⟩
  unfold whileS at hm
  split at hm
  · exact ev_whileN c2 b2 _ s l hm
  · exact hm.elim
end

/-! ### what is walked -/
abbrev Guard := Option (Nat × MO)
def Gd : Guard → Mu → Prop
  | none, _ => True
  | some (k, m), μ => μ[k]? = some m
structure Yields (K : PySem.W.Frag) (J : It) (items : List D) (gd : Guard) (α : Led) (S : Stb) : Prop where
  go : ∀ (i : Nat) (α' : Led) (μ' : Mu) (H' : Hp), Sat K α' μ' H' → Mx α S α' (stb α' μ' H') → Gd gd μ' → i < items.length → J.go i H'
  stop : ∀ (i : Nat) (α' : Led) (μ' : Mu) (H' : Hp), Sat K α' μ' H' → Mx α S α' (stb α' μ' H') → Gd gd μ' → items.length ≤ i → J.stop i H'
  yld : ∀ (i : Nat) (α' : Led) (μ' : Mu) (H' H'' : Hp) (x : V), Sat K α' μ' H' → Mx α S α' (stb α' μ' H') → Gd gd μ' → J.yld i H' x H'' → Sat K α' μ' H'' ∧ Mo α' (stb α' μ' H') α' (stb α' μ' H'') ∧ (∀ b, H' b ≠ none → H'' b = H' b) ∧ ∀ d, items[i]? = some d → Den K α' (stb α' μ' H'') d x
theorem Yields.mono {K : PySem.W.Frag} {J : It} {items : List D} {gd : Guard} {α α1 : Led} {S S1 : Stb} (y : Yields K J items gd α S) (m : Mx α S α1 S1) : Yields K J items gd α1 S1 :=
  ⟨fun i α' μ' H' s m' => y.go i α' μ' H' s (m.trans m'), fun i α' μ' H' s m' => y.stop i α' μ' H' s (m.trans m'), fun i α' μ' H' H'' x s m' => y.yld i α' μ' H' H'' x s (m.trans m')⟩
abbrev FI := Env → Mu → Out (List D × Guard)
def EvI (K : PySem.W.Frag) (E : XK) (wi : TI) (f : FI) : Prop := ∀ (σ : L2.St) (H : Hp) (α : Led) (ρ : Env) (μ : Mu) (R : It → Hp → Prop), Sat K α μ H → Loc K α (stb α μ H) σ ρ →
  Meets K E α (stb α μ H) (f ρ μ) (fun p μ' α' H' => ∀ J, Yields K J p.1 p.2 α' (stb α' μ' H') → R J H') → wi σ H R
structure DI (X : Cx) (E : XK) (tg iter : Expr) (f : FI) : Prop where
  ex : ∃ wi, PI X tg iter wi ∧ EvI X.K E wi f
def listI (fe : FE) : FI := fun ρ μ => (fe ρ μ).bind fun d μ1 => match d with
  | .lst ds => .ok (ds, none) μ1
  | .own k => match μ1[k]? with
    | some (.lst ds) => .ok (ds, some (k, .lst ds)) μ1
    | _ => .bad
  | _ => .bad
def tupI (fe : FE) : FI := fun ρ μ => (fe ρ μ).bind fun d μ1 => match d with
  | .tup ds => .ok (ds, none) μ1
  | _ => .bad
def strI (fe : FE) : FI := fun ρ μ => (fe ρ μ).bind fun d μ1 => match d with
  | .str s => .ok (s.map fun c => .str [c], none) μ1
  | _ => .bad
def rangeL (lo : Int) (n : Nat) : List D := (List.range n).map fun (i : Nat) => D.int (lo + (i : Int))
def rng1I (fa : FA) : FI := fun ρ μ => (fa ρ μ).bind fun ds μ1 => match ds with
  | [.int j] => if -(2 ^ 62) ≤ j ∧ j < 2 ^ 62 then .ok (rangeL 0 j.toNat, none) μ1 else .bad
  | _ => .bad
def rng2I (fa : FA) : FI := fun ρ μ => (fa ρ μ).bind fun ds μ1 => match ds with
  | [.int i, .int j] => if -(2 ^ 62) ≤ i ∧ i < 2 ^ 62 ∧ -(2 ^ 62) ≤ j ∧ j < 2 ^ 62 then .ok (rangeL i (j - i).toNat, none) μ1 else .bad
  | _ => .bad
def revI (fe : FE) : FI := fun ρ μ => (fe ρ μ).bind fun d μ1 => match d with
  | .int j => if -(2 ^ 62) ≤ j ∧ j < 2 ^ 62 then .ok ((List.range j.toNat).map fun (i : Nat) => D.int (((j.toNat : Nat) : Int) - 1 - (i : Int)), none) μ1 else .bad
  | _ => .bad
def keyD : DKey → D
  | .inl i => .int i
  | .inr s => .str s
/-- a locked dict's keys, its pairs -/
def keysI (fe : FE) : FI := fun ρ μ => (fe ρ μ).bind fun d μ1 => match d with
  | .own k => match μ1[k]? with
    | some (.lck (.dK kvs)) => .ok (kvs.map fun p => keyD p.1, some (k, .lck (.dK kvs))) μ1
    | _ => .bad
  | _ => .bad
def itemsI (fe : FE) : FI := fun ρ μ => (fe ρ μ).bind fun d μ1 => match d with
  | .own k => match μ1[k]? with
    | some (.lck (.dK kvs)) => .ok (kvs.map fun p => .tup [keyD p.1, p.2], some (k, .lck (.dK kvs))) μ1
    | _ => .bad
  | _ => .bad
section
variable {X : Cx} {E : XK} {tg : Expr}
theorem yields_list {K : PySem.W.Frag} {a : Addr} {xs : List V} {ds : List D} {α : Led} {S : Stb} (h : S a = some (true, .lst xs)) (r : DenL K α S ds xs) : Yields K (Itl K a) ds none α S := by
  refine ⟨fun i α' μ' H' s m g hi => ?_, fun i α' μ' H' s m g hi => ?_, fun i α' μ' H' H'' x s m g y => ?_⟩
  · have h1 := (stb_some (m.ext _ _ h)).1
    have hi' : i < xs.length := by rw [← r.length]; exact hi
    exact ⟨xs, xs[i], SqL.of h1, List.getElem?_eq_getElem hi'⟩
  · exact ⟨xs, SqL.of (stb_some (m.ext _ _ h)).1, by rw [← r.length]; exact hi⟩
  · obtain ⟨rfl, y⟩ := y
    refine ⟨s, Mo.refl _ _, fun _ _ => rfl, fun d hd => ?_⟩
    have hx := y xs (SqL.of (stb_some (m.ext _ _ h)).1)
    obtain ⟨d', e1, e2⟩ := r.get' hx
    rw [hd] at e1
    cases e1
    exact e2.monow m.w
theorem yields_own {K : PySem.W.Frag} {a : Addr} {k : Nat} {ds : List D} {α : Led} {S : Stb} (hk : α.ad[k]? = some a) : Yields K (Itl K a) ds (some (k, .lst ds)) α S := by
  have at_ : ∀ {α' : Led} {μ' : Mu} {H' : Hp}, Sat K α' μ' H' → Mx α S α' (stb α' μ' H') → Gd (some (k, .lst ds)) μ' → ∃ xs, H' a = some (.lst xs) ∧ DenL K α' (stb α' μ' H') ds xs := fun s m g => by
    obtain ⟨o, h1, xs, rfl, h2⟩ := s.obj k a _ (m.pre _ _ hk) g rfl
    exact ⟨xs, h1, h2⟩
  refine ⟨fun i α' μ' H' s m g hi => ?_, fun i α' μ' H' s m g hi => ?_, fun i α' μ' H' H'' x s m g y => ?_⟩
  · obtain ⟨xs, h1, r⟩ := at_ s m g
    have hi' : i < xs.length := by rw [← r.length]; exact hi
    exact ⟨xs, xs[i], SqL.of h1, List.getElem?_eq_getElem hi'⟩
  · obtain ⟨xs, h1, r⟩ := at_ s m g
    exact ⟨xs, SqL.of h1, by rw [← r.length]; exact hi⟩
  · obtain ⟨rfl, y⟩ := y
    obtain ⟨xs, h1, r⟩ := at_ s m g
    refine ⟨s, Mo.refl _ _, fun _ _ => rfl, fun d hd => ?_⟩
    have hx := y xs (SqL.of h1)
    obtain ⟨d', e1, e2⟩ := r.get' hx
    rw [hd] at e1
    cases e1
    exact e2
theorem di_list {l : Expr} {fe : FE} (h : DE X E l fe) : DI X E tg l (listI fe) := by
  obtain ⟨t, h1, h2⟩ := h.ex
  refine ⟨_, pi_list h1, fun σ H α ρ μ R s l hm => ?_⟩
  refine h2 σ H α ρ μ _ s l (hm.bind.mono fun d μ1 α1 H1 ee1 s1 m1 q v r => ?_)
  split at q
  · obtain ⟨a, xs, rfl, h3, h4⟩ := r.lst_inv
    exact ⟨a, rfl, ⟨xs, SqL.of (stb_some h3).1⟩, q _ _ s1 (Mo.refl _ _) _ (yields_list h3 h4)⟩
  · split at q
    · rename_i hk
      obtain ⟨a, o, rfl, ha, h3, xs, rfl, h4⟩ := own_at s1 r hk rfl
      exact ⟨a, rfl, ⟨xs, SqL.of h3⟩, q _ _ s1 (Mo.refl _ _) _ (yields_own ha)⟩
    · exact q.elim
  · exact q.elim
theorem di_tup {l : Expr} {fe : FE} (h : DE X E l fe) : DI X E tg l (tupI fe) := by
  obtain ⟨t, h1, h2⟩ := h.ex
  refine ⟨_, pi_tup h1, fun σ H α ρ μ R s l hm => ?_⟩
  refine h2 σ H α ρ μ _ s l (hm.bind.mono fun d μ1 α1 H1 ee1 s1 m1 q v r => ?_)
  split at q
  · obtain ⟨a, xs, rfl, h, r⟩ := r.tup_inv
    refine ⟨a, rfl, ⟨xs, SqT.of (stb_some h).1⟩, q _ _ s1 (Mo.refl _ _) _ ?_⟩
    refine ⟨fun i α' μ' H' s m g hi => ?_, fun i α' μ' H' s m g hi => ?_, fun i α' μ' H' H'' x s m g y => ?_⟩
    · have h1 := (stb_some (m.ext _ _ h)).1
      have hi' : i < xs.length := by rw [← r.length]; exact hi
      exact ⟨xs, xs[i], SqT.of h1, List.getElem?_eq_getElem hi'⟩
    · exact ⟨xs, SqT.of (stb_some (m.ext _ _ h)).1, by rw [← r.length]; exact hi⟩
    · obtain ⟨rfl, y⟩ := y
      refine ⟨s, Mo.refl _ _, fun _ _ => rfl, fun d hd => ?_⟩
      have hx := y xs (SqT.of (stb_some (m.ext _ _ h)).1)
      obtain ⟨d', e1, e2⟩ := r.get' hx
      rw [hd] at e1
      cases e1
      exact e2.monow m.w
  · exact q.elim
theorem di_str {l : Expr} {fe : FE} (h : DE X E l fe) : DI X E tg l (strI fe) := by
  obtain ⟨t, h1, h2⟩ := h.ex
  refine ⟨_, pi_str h1, fun σ H α ρ μ R s l hm => ?_⟩
  refine h2 σ H α ρ μ _ s l (hm.bind.mono fun d μ1 α1 H1 ee1 s1 m1 q v r => ?_)
  split at q
  · rename_i u
    obtain ⟨rfl, o⟩ := r.str_inv
    refine ⟨_, rfl, q _ _ s1 (Mo.refl _ _) _ ?_⟩
    refine ⟨fun i α' μ' H' s m g hi => ?_, fun i α' μ' H' s m g hi => ?_, fun i α' μ' H' H'' x s m g y => ?_⟩
    · rw [List.length_map] at hi
      exact hi
    · rw [List.length_map] at hi
      exact hi
    · obtain ⟨rfl, c, h3, rfl⟩ := y
      refine ⟨s, Mo.refl _ _, fun _ _ => rfl, fun d hd => ?_⟩
      have h3' : u[i]? = some c := by simpa [mkS] using h3
      rw [List.getElem?_map, h3'] at hd
      cases hd
      exact .str (.one (o.2 c (List.mem_of_getElem? h3')))
  · exact q.elim
theorem yields_rng {K : PySem.W.Frag} {lo : Int} {n : Nat} {α : Led} {S : Stb} : Yields K (Itr lo n) (rangeL lo n) none α S := by
  refine ⟨fun i α' μ' H' s m g hi => ?_, fun i α' μ' H' s m g hi => ?_, fun i α' μ' H' H'' x s m g y => ?_⟩
  · unfold rangeL at hi
    rw [List.length_map, List.length_range] at hi
    exact hi
  · unfold rangeL at hi
    rw [List.length_map, List.length_range] at hi
    exact hi
  · obtain ⟨rfl, rfl⟩ := y
    refine ⟨s, Mo.refl _ _, fun _ _ => rfl, fun d hd => ?_⟩
    unfold rangeL at hd
    rw [List.getElem?_map] at hd
    cases e : (List.range n)[i]? with
    | none => rw [e] at hd; cases hd
    | some j =>
      rw [e] at hd
      cases hd
      rw [List.getElem?_range] at e
      · cases e
        exact .int
      · have := (List.getElem?_eq_some_iff.mp e).1
        rwa [List.length_range] at this
theorem di_rng1 {a : Expr} {fa : FA} {p pos : Pos} (hm : X.mg "range" = none) (ha : DA X E [a] fa) (hg : Gl X "range" := by rfl) (hs : starEach [a] X.env = [(false, eval a X.env)] := by rfl) : DI X E tg (.Call (.Name "range" p) [a] [] pos) (rng1I fa) := by
  obtain ⟨t, h1, h2⟩ := ha.ex
  refine ⟨_, pi_range1 hg hm h1 hs, fun σ H α ρ μ R s l hmt => ?_⟩
  refine h2 σ H α ρ μ _ s l (hmt.bind.mono fun d μ1 α1 H1 ee1 s1 m1 q v r => ?_)
  split at q
  · rename_i j
    obtain ⟨v, rfl, r1⟩ := r.one_inv
    obtain rfl := r1.int_inv
    split at q
    · rename_i hb
      exact ⟨j, rfl, hb.1, hb.2, q _ _ s1 (Mo.refl _ _) _ yields_rng⟩
    · exact q.elim
  · exact q.elim
theorem di_rng2 {a b : Expr} {fa : FA} {p pos : Pos} (hm : X.mg "range" = none) (ha : DA X E [a, b] fa) (hg : Gl X "range" := by rfl) (hs : starEach [a, b] X.env = [(false, eval a X.env), (false, eval b X.env)] := by rfl) (hs2 : starEach [b] X.env = [(false, eval b X.env)] := by rfl) : DI X E tg (.Call (.Name "range" p) [a, b] [] pos) (rng2I fa) := by
  obtain ⟨t, h1, h2⟩ := ha.ex
  refine ⟨_, pi_range2 hg hm h1 hs hs2, fun σ H α ρ μ R s l hmt => ?_⟩
  refine h2 σ H α ρ μ _ s l (hmt.bind.mono fun d μ1 α1 H1 ee1 s1 m1 q v r => ?_)
  split at q
  · rename_i i j
    obtain ⟨v, w, rfl, r1, r2⟩ := r.two_inv
    obtain rfl := r1.int_inv
    obtain rfl := r2.int_inv
    split at q
    · rename_i hb
      exact ⟨i, j, rfl, hb, q _ _ s1 (Mo.refl _ _) _ yields_rng⟩
    · exact q.elim
  · exact q.elim
theorem di_rev {a : Expr} {fe : FE} {p pos p2 pos2 : Pos} (hm : X.mg "reversed" = none) (hm2 : X.mg "range" = none) (ha : DE X E a fe) (hg : Gl X "reversed" := by rfl) (hg2 : Gl X "range" := by rfl) (na : starEach [a] X.env = (false, eval a X.env) :: starEach [] X.env := by rfl)
    (hs : starEach [.Call (.Name "range" p2) [a] [] pos2] X.env = (false, eval (.Call (.Name "range" p2) [a] [] pos2) X.env) :: starEach [] X.env := by rfl) : DI X E tg (.Call (.Name "reversed" p) [.Call (.Name "range" p2) [a] [] pos2] [] pos) (revI fe) := by
  obtain ⟨t, h1, h2⟩ := ha.ex
  refine ⟨_, pi_revR hg hm (prg_1 hg2 hm2 h1 na) hs, fun σ H α ρ μ R s l hmt => ?_⟩
  refine h2 σ H α ρ μ _ s l (hmt.bind.mono fun d μ1 α1 H1 ee1 s1 m1 q v r => ?_)
  split at q
  · rename_i j
    obtain rfl := r.int_inv
    split at q
    · rename_i hb
      refine ⟨j, rfl, by decide, by decide, hb.1, hb.2, q _ _ s1 (Mo.refl _ _) _ ?_⟩
      refine ⟨fun i α' μ' H' s m g hi => ?_, fun i α' μ' H' s m g hi => ?_, fun i α' μ' H' H'' x s m g y => ?_⟩
      · rw [List.length_map, List.length_range] at hi
        show i < (j - 0).toNat
        rw [Int.sub_zero]
        exact hi
      · rw [List.length_map, List.length_range] at hi
        show (j - 0).toNat ≤ i
        rw [Int.sub_zero]
        exact hi
      · obtain ⟨rfl, rfl⟩ := y
        refine ⟨s, Mo.refl _ _, fun _ _ => rfl, fun d hd => ?_⟩
        rw [List.getElem?_map] at hd
        cases e : (List.range j.toNat)[i]? with
        | none => rw [e] at hd; cases hd
        | some k =>
          rw [e] at hd
          have hk : k < j.toNat := by
            have := List.mem_of_getElem? e
            exact List.mem_range.mp this
          rw [List.getElem?_range] at e
          · cases e
            have e2 : (0 : Int) + (((j - 0).toNat : Nat) : Int) - 1 + ((i : Nat) : Int) * (-1) = ((j.toNat : Nat) : Int) - 1 - (i : Int) := by
              rw [Int.sub_zero]
              omega
            rw [e2]
            have hd' : D.int (((j.toNat : Nat) : Int) - 1 - (i : Int)) = d := Option.some.inj hd
            rw [← hd']
            exact .int
          · have := (List.getElem?_eq_some_iff.mp e).1
            rwa [List.length_range] at this
    · exact q.elim
  · exact q.elim
theorem KD.at_ {K : PySem.W.Frag} {α : Led} {S : Stb} : ∀ {kvs : List (DKey × D)} {ys : List (Key × V)} {i : Nat} {k : Key} {v : V}, KD K α S keyS kvs ys → ys[i]? = some (k, v) → ∃ p, kvs[i]? = some p ∧ k = keyS p.1 ∧ Den K α S p.2 v
  | [], ys, i, k, v, h, e => by
    cases (show ys = [] from h)
    simp at e
  | p :: r, ys, 0, k, v, h, e => by
    obtain ⟨w, t, rfl, h1, h2⟩ := h
    simp at e
    obtain ⟨rfl, rfl⟩ := e
    exact ⟨p, rfl, rfl, h1⟩
  | p :: r, ys, i + 1, k, v, h, e => by
    obtain ⟨w, t, rfl, h1, h2⟩ := h
    simp at e
    obtain ⟨q, e1, e2⟩ := KD.at_ h2 e
    exact ⟨q, by simpa using e1, e2⟩
theorem key_den {K : PySem.W.Frag} {α : Led} {S : Stb} : ∀ (k : DKey), KeyOk k → Den K α S (keyD k) (kV (keyS k))
  | .inl i, _ => .int
  | .inr s, h => .str h
/-- a locked dict, as it stands through a loop -/
theorem lck_at {K : PySem.W.Frag} {k : Nat} {kvs : List (DKey × D)} {a : Addr} {ob : Obj} {u : HO} {α : Led} {S : Stb} (hk : α.ad[k]? = some a) (hS : S a = some (true, .frz ob u)) {α' : Led} {μ' : Mu} {H' : Hp} (s : Sat K α' μ' H') (m : Mx α S α' (stb α' μ' H')) (g : Gd (some (k, .lck (.dK kvs))) μ') :
    ∃ ys, u = .dK ys ∧ H' a = some (.frz ob (.dK ys)) ∧ KD K α' (stb α' μ' H') keyS kvs ys ∧ ∀ p ∈ kvs, KeyOk p.1 := by
  obtain ⟨o, h1, ob', u', rfl, ys, rfl, h2⟩ := s.obj k a _ (m.pre _ _ hk) g rfl
  have h3 := (stb_some (m.ext _ _ hS)).1
  rw [h1] at h3
  cases h3
  exact ⟨ys, rfl, h1, h2⟩
end
end Dt

/-! Dt7: for, comprehensions, locks, defs. -/
namespace Dt
open PySem PySem.Spec PyProof.Rows L2
open Classical in
/-- the turns of a for -/
noncomputable def loopS (gd : Guard) (gt : FG) (fb : FS) : List D → FS
  | [], ρ, μ => if Gd gd μ then .ok (.nx ρ) μ else .bad
  | d :: ds, ρ, μ => if Gd gd μ then match gt d ρ with
    | none => .bad
    | some ρ1 => (fb ρ1 μ).bind fun fl μ2 => match fl with
      | .nx ρ' => loopS gd gt fb ds ρ' μ2
      | .ct ρ' => loopS gd gt fb ds ρ' μ2
      | .bk ρ' => .ok (.nx ρ') μ2
      | .rt d => .ok (.rt d) μ2 else .bad
noncomputable def forS (fi : FI) (gt : FG) (fb : FS) : FS := fun ρ μ => (fi ρ μ).bind fun p μ1 => loopS p.2 gt fb p.1 ρ μ1
section
variable {X : Cx} {E : XK} {pos : Pos}
theorem ev_for {K : PySem.W.Frag} {wi : TI} {g : TG} {tb : TS} {fi : FI} {is : List Nat} {gt : FG} {fb : FS} (hi : EvI K E wi fi) (hg : EvG K g is gt) (hb : EvS K E tb fb) : EvS K E (tFor wi g tb) (forS fi gt fb) := by
  intro σ H α ρ μ Dn s l hm
  refine hi σ H α ρ μ _ s l (hm.bind.mono fun p μ1 α1 H1 ee s1 m1 q J y => ?_)
  obtain ⟨items, gd⟩ := p
  refine ⟨fun i m σ' H' => i + m = items.length ∧ ∃ α' ρ' μ', Sat K α' μ' H' ∧ Mo α1 (stb α1 μ1 H1) α' (stb α' μ' H') ∧ Loc K α' (stb α' μ' H') σ' ρ' ∧ Meets K E α' (stb α' μ' H') (loopS gd gt fb (items.drop i) ρ' μ') (RS K Dn),
    ⟨items.length, Nat.zero_add _, α1, ρ, μ1, s1, Mo.refl _ _, l.mono m1, q⟩, ?_⟩
  rintro i m σ2 H2 ⟨hl, α2, ρ2, μ2, s2, m2, l2, q2⟩
  by_cases hlt : i < items.length
  · rw [List.drop_eq_getElem_cons hlt] at q2
    unfold loopS at q2
    split at q2
    · rename_i hgd
      split at q2
      · exact q2.elim
      · rename_i ρ3 e3
        refine .inr ⟨y.go i α2 μ2 H2 s2 m2.x hgd hlt, fun σ' H' => ∃ α' ρ' μ', Sat K α' μ' H' ∧ Mo α1 (stb α1 μ1 H1) α' (stb α' μ' H') ∧ Loc K α' (stb α' μ' H') σ' ρ' ∧ Meets K E α' (stb α' μ' H') (loopS gd gt fb (items.drop (i + 1)) ρ' μ') (RS K Dn),
          fun σ' H' z => ⟨m - 1, by omega, by omega, z⟩, fun x H3 hy => ?_⟩
        obtain ⟨s3, m3, k3, r3⟩ := y.yld i α2 μ2 H2 H3 x s2 m2.x hgd hy
        have r := r3 _ (List.getElem?_eq_getElem hlt)
        refine hg x σ2 H3 _ α2 _ ρ2 ρ3 _ stb_sub (l2.mono m3) r e3 fun σ4 l4 _ _ => ?_
        refine hb σ4 H3 α2 ρ3 μ2 _ s3 l4 ((Meets.rebase m3 q2).bind.mono fun fl μ5 α5 H5 ee5 s5 m5 q5 => ?_)
        have m25 := (m2.trans m3).trans m5
        cases fl with
        | nx ρ' => exact fun σ' l' => ⟨α5, ρ', μ5, s5, m25, l', q5⟩
        | ct ρ' => exact fun σ' l' => ⟨α5, ρ', μ5, s5, m25, l', q5⟩
        | bk ρ' => exact fun σ' l' => q5 _ _ s5 (Mo.refl _ _) σ' l'
        | rt d => exact q5 _ _ s5 (Mo.refl _ _)
    · exact q2.elim
  · rw [List.drop_eq_nil_of_le (by omega)] at q2
    unfold loopS at q2
    split at q2
    · rename_i hgd
      exact .inl ⟨y.stop i α2 μ2 H2 s2 m2.x hgd (by show items.length ≤ i; omega), q2 _ _ s2 (Mo.refl _ _) σ2 l2⟩
    · exact q2.elim
theorem ds_for {tg iter : Expr} {body : List Stmt} {fi : FI} {is : List Nat} {gt : FG} {fb : FS} (hp : PassesOwn (model X.prog X.w) X.A X.env X.xe) (hc : X.calm = true) (hi : DI X E tg iter fi) (hg : DG X tg is gt) (hb : DSs X E body fb) (hs : ∀ x, foldedSetIterable iter X.env x = pure x := by intro _; rfl) :
    DS X E (.For tg iter body [] pos) (forS fi gt fb) := by
  obtain ⟨wi, i1, i2⟩ := hi.ex
  obtain ⟨g, g1, g2⟩ := hg.ex
  obtain ⟨tb, b1, b2⟩ := hb.ex
  exact ⟨_, ps_for hp hc i1 g1 b1 hs, ev_for i2 g2 b2⟩

/-! ### over a locked dict -/
theorem di_keys {tg l : Expr} {fe : FE} (h : DE X E l fe) : DI X E tg l (keysI fe) := by
  obtain ⟨t, h1, h2⟩ := h.ex
  refine ⟨_, pi_keys h1, fun σ H α ρ μ R s l hm => ?_⟩
  refine h2 σ H α ρ μ _ s l (hm.bind.mono fun d μ1 α1 H1 ee s1 m1 q v r => ?_)
  split at q
  · split at q
    · rename_i hk
      obtain ⟨a, o, rfl, ha, h3, ob, u, rfl, ys, rfl, h4⟩ := own_at s1 r hk rfl
      have hS : stb α1 μ1 H1 a = some (true, .frz ob (.dK ys)) := by
        rw [stb_of h3 fun z => ?_, decide_eq_true (s1.apart _ a _ ha hk rfl)]
        obtain ⟨i, n, z1, z2, z3⟩ := mem_live.mp z
        have := s1.inj i _ a n _ z1 ha z2 hk (isGone_of z3) rfl
        subst this
        rw [hk] at z2
        cases z2
        cases z3
      refine ⟨a, ob, rfl, .inl ⟨ys, h3, q _ _ s1 (Mo.refl _ _) _ ?_⟩⟩
      refine ⟨fun i α' μ' H' s m g hi => ?_, fun i α' μ' H' s m g hi => ?_, fun i α' μ' H' H'' x s m g y => ?_⟩
      · obtain ⟨zs, e, h5, h6⟩ := lck_at ha hS s m g
        cases e
        exact ⟨h5, by rw [← h6.1.length]; simpa using hi⟩
      · obtain ⟨zs, e, h5, h6⟩ := lck_at ha hS s m g
        cases e
        exact ⟨h5, by rw [← h6.1.length]; simpa using hi⟩
      · obtain ⟨zs, e, h5, h6⟩ := lck_at ha hS s m g
        cases e
        obtain ⟨rfl, k, v, e1, rfl⟩ := y
        refine ⟨s, Mo.refl _ _, fun _ _ => rfl, fun d hd => ?_⟩
        obtain ⟨p, e2, rfl, _⟩ := KD.at_ h6.1 e1
        rw [List.getElem?_map, e2] at hd
        cases hd
        exact key_den _ (h6.2 p (List.mem_of_getElem? e2))
    · exact q.elim
  · exact q.elim
theorem di_items {l : Expr} {elts : List Expr} {kk : Nat} {tpos apos cpos : Pos} {fe : FE} (h : DE X E l fe) (hbase : attributeBase l "items" X.env (eval l X.env) = eval l X.env := by rfl) (hline : (apos.endLine == cpos.line) = true := by rfl) :
    DI X E (.Tuple elts kk tpos) (.Call (.Attribute l "items" apos) [] [] cpos) (itemsI fe) := by
  obtain ⟨t, h1, h2⟩ := h.ex
  refine ⟨_, pi_items h1 hbase hline, fun σ H α ρ μ R s l hm => ?_⟩
  refine h2 σ H α ρ μ _ s l (hm.bind.mono fun d μ1 α1 H1 ee s1 m1 q v r => ?_)
  split at q
  · split at q
    · rename_i hk
      obtain ⟨a, o, rfl, ha, h3, ob, u, rfl, ys, rfl, h4⟩ := own_at s1 r hk rfl
      have hS : stb α1 μ1 H1 a = some (true, .frz ob (.dK ys)) := by
        rw [stb_of h3 fun z => ?_, decide_eq_true (s1.apart _ a _ ha hk rfl)]
        obtain ⟨i, n, z1, z2, z3⟩ := mem_live.mp z
        have := s1.inj i _ a n _ z1 ha z2 hk (isGone_of z3) rfl
        subst this
        rw [hk] at z2
        cases z2
        cases z3
      refine ⟨a, ob, ys, rfl, h3, q _ _ s1 (Mo.refl _ _) _ ?_⟩
      refine ⟨fun i α' μ' H' s m g hi => ?_, fun i α' μ' H' s m g hi => ?_, fun i α' μ' H' H'' x s m g y => ?_⟩
      · obtain ⟨zs, e, h5, h6⟩ := lck_at ha hS s m g
        cases e
        exact ⟨h5, by rw [← h6.1.length]; simpa using hi⟩
      · obtain ⟨zs, e, h5, h6⟩ := lck_at ha hS s m g
        cases e
        exact ⟨h5, by rw [← h6.1.length]; simpa using hi⟩
      · obtain ⟨zs, e, h5, h6⟩ := lck_at ha hS s m g
        cases e
        obtain ⟨T, k, v, e1, rfl, nT, rfl⟩ := y
        obtain ⟨s2, m2, w2⟩ := s.news nT (o := .tup [kV k, v])
        refine ⟨s2, m2, fun b hb => upd_ne fun z => hb (by rw [z]; exact nT), fun d hd => ?_⟩
        obtain ⟨p, e2, rfl, r2⟩ := KD.at_ h6.1 e1
        rw [List.getElem?_map, e2] at hd
        cases hd
        exact .tup w2 (.cons (key_den _ (h6.2 p (List.mem_of_getElem? e2))) (.cons (r2.mono m2) .nil))
    · exact q.elim
  · exact q.elim
/-- the dict that a statement walks is locked meanwhile -/
def ownOf : Out D → Option Nat
  | .ok (.own k) _ => some k
  | _ => none
def dkOf : Option MO → Option (List (DKey × D))
  | some (.dK kvs) => some kvs
  | _ => none
theorem dkOf_of : ∀ {o : Option MO} {kvs : List (DKey × D)}, dkOf o = some kvs → o = some (.dK kvs)
  | some (.lst _), _, h => by cases h
  | some (.dK _), _, h => by rw [Option.some.inj h]
  | some (.dT _), _, h => by cases h
  | some (.ins _ _), _, h => by cases h
  | some (.lck _), _, h => by cases h
  | some .gone, _, h => by cases h
  | none, _, h => by cases h
open Classical in
noncomputable def lockS (fo : FE) (f : FS) : FS := fun ρ μ => match ownOf (fo ρ μ) with
  | none => .bad
  | some k => match dkOf μ[k]? with
    | none => .bad
    | some kvs => match f ρ (μ.set k (.lck (.dK kvs))) with
      | .ok fl μ2 => if μ2[k]? = some (.lck (.dK kvs)) then .ok fl (μ2.set k (.dK kvs)) else .bad
      | _ => .bad
theorem Loc.monow {K : PySem.W.Frag} {α α' : Led} {S S' : Stb} {σ : L2.St} {ρ : Env} (m : Mw α S α' S') (h : Loc K α S σ ρ) : Loc K α' S' σ ρ := ⟨h.1, fun i d e => by
  obtain ⟨v, h1, h2⟩ := h.2 i d e
  exact ⟨v, h1, h2.monow m⟩⟩
theorem ev_lock {K : PySem.W.Frag} {t : TS} {fo : FE} {f : FS} (h : EvS K E t f) : EvS K E (tLock t) (lockS fo f) := by
  intro σ H α ρ μ Dn s l hm
  unfold lockS at hm
  split at hm
  · exact hm.elim
  · rename_i k ek
    split at hm
    · exact hm.elim
    · rename_i kvs ekv
      have hk := dkOf_of ekv
      obtain ⟨a, ha⟩ := s.there hk
      obtain ⟨o, h1, ys, rfl, h2⟩ := s.obj k a _ ha hk rfl
      refine ⟨a, .dK ys, h1, True.intro, fun od => ?_⟩
      obtain ⟨s1, m1, hS⟩ := s.lock (ob := od) ha hk rfl h1 ⟨ys, rfl, h2⟩
      refine h σ _ α ρ _ _ s1 (l.mono m1) ?_
      split at hm
      · rename_i fl μ2 e2
        split at hm
        · rename_i e3
          rw [e2]
          intro α' H' s2 m2
          have hf := (stb_some (m2.ext _ _ hS)).1
          obtain ⟨s3, w3, x3⟩ := s2.unlock (m2.pre _ _ ha) e3 rfl hf (fun _ z => by cases z)
          have m3 : Mo α (stb α μ H) α' (stb α' (μ2.set k (.dK kvs)) (upd H' a (.dK ys))) := ⟨fun j b hb => m2.pre j b hb, fun b u hb => by
            obtain ⟨c, u⟩ := u
            refine x3 b _ (fun z => ?_) (m2.ext _ _ (m1.ext _ _ hb))
            have := (stb_some hb).2.1
            exact this (mem_live.mpr ⟨k, _, by rw [z]; exact ha, hk, rfl⟩), m2.hid.trans m1.hid⟩
          have q := hm α' _ s3 m3
          cases fl with
          | nx ρ' => exact fun σ' l' => ⟨hf, q σ' (l'.monow w3)⟩
          | rt d => exact fun v r => ⟨hf, q v (r.monow w3)⟩
          | bk ρ' => exact fun σ' l' => ⟨hf, q σ' (l'.monow w3)⟩
          | ct ρ' => exact fun σ' l' => ⟨hf, q σ' (l'.monow w3)⟩
        · exact hm.elim
      · exact hm.elim
theorem ds_lock {st : Stmt} {fo : FE} {f : FS} (h : DS X E st f) : DS X E st (lockS fo f) := by
  obtain ⟨t, h1, h2⟩ := h.ex
  exact ⟨_, ps_lock h1, ev_lock h2⟩

/-! ### list comprehensions -/
def tOfE (K : PySem.W.Frag) (E : XK) (f : FE) : TE := fun σ H Q => ∃ (α : Led) (ρ : Env) (μ : Mu), Sat K α μ H ∧ Loc K α (stb α μ H) σ ρ ∧ Meets K E α (stb α μ H) (f ρ μ) (RD K Q)
def tOfT (K : PySem.W.Frag) (E : XK) (f : FT) : TT := fun σ H Q => ∃ (α : Led) (ρ : Env) (μ : Mu), Sat K α μ H ∧ Loc K α (stb α μ H) σ ρ ∧ Meets K E α (stb α μ H) (f ρ μ) (fun b _ _ H' => Q b H')
def tOfG (K : PySem.W.Frag) (is : List Nat) (f : FG) : TG := fun v σ H Q => ∃ (S : Stb) (α : Led) (d : D) (ρ ρ' : Env), (∀ (a : Addr) (o : HO), S a = some (true, o) → H a = some o) ∧ Loc K α S σ ρ ∧ Den K α S d v ∧ f d ρ = some ρ' ∧
  (∀ σ', Loc K α S σ' ρ' → σ'.length = σ.length → (∀ j, j ∉ is → σ'[j]? = σ[j]?) → Q σ' H)
theorem DE.pe {e : Expr} {f : FE} (h : DE X E e f) : PE X e (tOfE X.K E f) := by
  obtain ⟨t, h1, h2⟩ := h.ex
  exact ⟨fun pins s σ H Q I ⟨α, ρ, μ, s1, l, hm⟩ => h1.run pins s σ H Q I (h2 σ H α ρ μ Q s1 l hm)⟩
theorem DT.pt {e : Expr} {f : FT} (h : DT X E e f) : PT X e (tOfT X.K E f) := by
  obtain ⟨t, h1, h2⟩ := h.ex
  exact ⟨fun pins s σ H Q I ⟨α, ρ, μ, s1, l, hm⟩ => h1.run pins s σ H Q I (h2 σ H α ρ μ Q s1 l hm)⟩
theorem DG.pg {e : Expr} {is : List Nat} {f : FG} (h : DG X e is f) : PG X e (tOfG X.K is f) := by
  obtain ⟨t, h1, h2⟩ := h.ex
  exact ⟨fun pins s σ H v u Q I r ⟨S, α, d, ρ, ρ', e, l, rd, hf, k⟩ => h1.run pins s σ H v u Q I r (h2 v σ H S α d ρ ρ' Q e l rd hf k)⟩
structure DTs (X : Cx) (E : XK) (ifs : List Expr) (f : FT) : Prop where
  pts : PTs X ifs (tOfT X.K E f)
def yesT : FT := fun _ μ => .ok true μ
theorem dts_nil : DTs X E [] yesT := ⟨⟨fun pins s σ H Q I ⟨α, ρ, μ, s1, l, hm⟩ => pts_nil.run pins s σ H Q I (hm _ _ s1 (Mo.refl _ _))⟩⟩
theorem dts_one {c : Expr} {f : FT} (h : DT X E c f) : DTs X E [c] f := ⟨pts_one h.pt⟩
def wipeE (ρ : Env) : List Nat → Env
  | [] => ρ
  | v :: vs => (wipeE ρ vs).set v none
theorem wipeE_length (ρ : Env) : ∀ vs : List Nat, (wipeE ρ vs).length = ρ.length
  | [] => rfl
  | v :: vs => by unfold wipeE; rw [List.length_set, wipeE_length ρ vs]
theorem wipeE_some {ρ : Env} {i : Nat} {x : D} : ∀ {vs : List Nat}, (wipeE ρ vs)[i]? = some (some x) → ρ[i]? = some (some x) ∧ i ∉ vs
  | [], h => ⟨h, by simp⟩
  | v :: vs, h => by
    unfold wipeE at h
    by_cases hi : v = i
    · subst hi
      by_cases hv : v < (wipeE ρ vs).length
      · rw [List.getElem?_set_self hv] at h; cases h
      · rw [List.getElem?_eq_none (by simpa using hv)] at h; cases h
    · rw [List.getElem?_set_ne hi] at h
      obtain ⟨h1, h2⟩ := wipeE_some h
      exact ⟨h1, by simp only [List.mem_cons, not_or]; exact ⟨fun e => hi e.symm, h2⟩⟩
theorem Loc.wipe {K : PySem.W.Frag} {α : Led} {S : Stb} {σ : L2.St} {ρ : Env} (l : Loc K α S σ ρ) (vs : List Nat) : Loc K α S (L2.wipe σ vs) (wipeE ρ vs) := by
  refine ⟨by rw [wipe_length, wipeE_length]; exact l.1, fun i d h => ?_⟩
  obtain ⟨h1, h2⟩ := wipeE_some h
  obtain ⟨v, h3, h4⟩ := l.2 i d h1
  exact ⟨v, by rw [wipe_out h2]; exact h3, h4⟩
theorem wipe_in (σ : L2.St) {j : Nat} : ∀ {vs : List Nat}, j ∈ vs → j < σ.length → (L2.wipe σ vs)[j]? = some none
  | [], h, _ => by cases h
  | v :: vs, h, hj => by
    unfold L2.wipe
    by_cases e : v = j
    · subst e
      rw [List.getElem?_set_self (by rw [wipe_length]; exact hj)]
    · rw [List.getElem?_set_ne e]
      rcases List.mem_cons.mp h with z | z
      · exact absurd z.symm e
      · exact wipe_in σ z hj
theorem wipe_eq {σ σ2 : L2.St} {is vs : List Nat} (sub : ∀ i ∈ is, i ∈ vs) (hl : σ2.length = (L2.wipe σ vs).length) (h : ∀ j, j ∉ is → σ2[j]? = (L2.wipe σ vs)[j]?) : L2.wipe σ2 vs = L2.wipe σ vs := by
  have hl' : σ2.length = σ.length := by rw [hl, wipe_length]
  refine List.ext_getElem? fun j => ?_
  by_cases hj : j ∈ vs
  · by_cases hb : j < σ.length
    · rw [wipe_in σ2 hj (by rw [hl']; exact hb), wipe_in σ hj hb]
    · rw [List.getElem?_eq_none (by rw [wipe_length, hl']; omega), List.getElem?_eq_none (by rw [wipe_length]; omega)]
  · rw [wipe_out hj, h j fun z => hj (sub j z)]
open Classical in
noncomputable def compM (gd : Guard) (gt : FG) (ft : FT) (fe : FE) : List D → Env → Mu → Out (List D)
  | [], _, μ => if Gd gd μ then .ok [] μ else .bad
  | d :: ds, ρ, μ => if Gd gd μ then match gt d ρ with
    | none => .bad
    | some ρ1 => (ft ρ1 μ).bind fun b μ1 => if b then (fe ρ1 μ1).bind fun x μ2 => (compM gd gt ft fe ds ρ μ2).bind fun r μ3 => .ok (x :: r) μ3 else compM gd gt ft fe ds ρ μ1 else .bad
def okOf {β : Type} : Out β → Option (β × Mu)
  | .ok b μ => some (b, μ)
  | _ => none
theorem okOf_of {β : Type} {o : Out β} {b : β} {μ : Mu} (h : okOf o = some (b, μ)) : o = .ok b μ := by
  cases o with
  | ok b' μ' => cases h; rfl
  | exc _ _ _ => cases h
  | bad => cases h
theorem bind_ok_inv {β γ : Type} {o : Out β} {k : β → Mu → Out γ} {c : γ} {μ : Mu} (h : o.bind k = .ok c μ) : ∃ b μ1, o = .ok b μ1 ∧ k b μ1 = .ok c μ := by
  cases o with
  | ok b μ1 => exact ⟨b, μ1, rfl, h⟩
  | exc _ _ _ => cases h
  | bad => cases h
noncomputable def lcE (b : Bool) (fi : FI) (gt : FG) (ft : FT) (fe : FE) (vs : List Nat) : FE := fun ρ μ => (fi ρ μ).bind fun p μ1 => match okOf (compM p.2 gt ft fe p.1 (wipeE ρ vs) μ1) with
  | some (ds, μ2) => if p.1.length ≤ sizeLine then mkL b ds μ2 else .bad
  | none => .bad
theorem ev_lc {K : PySem.W.Frag} {b : Bool} {wi : TI} {fi : FI} {gt : FG} {ft : FT} {fe : FE} {vs is : List Nat} (hi : EvI K E wi fi) (sub : ∀ i ∈ is, i ∈ vs) : EvE K E (tLc wi (tOfG K is gt) (tOfT K E0 ft) (tOfE K E0 fe) vs) (lcE b fi gt ft fe vs) := by
  intro σ H α ρ μ Q s l hm
  refine hi σ H α ρ μ _ s l (hm.bind.mono fun p μ1 α1 H1 ee s1 m1 q J y => ?_)
  obtain ⟨items, gd⟩ := p
  replace q : Meets K E α1 (stb α1 μ1 H1) (match okOf (compM gd gt ft fe items (wipeE ρ vs) μ1) with
    | some (ds, μ2) => if items.length ≤ sizeLine then mkL b ds μ2 else .bad
    | none => .bad) (RD K Q) := q
  replace y : Yields K J items gd α1 (stb α1 μ1 H1) := y
  split at q
  · rename_i total μf ek
    have hk := okOf_of ek
    split at q
    · rename_i hsz
      intro Zd hD
      obtain ⟨sh, exh, hidD⟩ := s1.hide hD (o := .lst [])
      have nD : Zd ∉ α1.hid := s1.nohid hD
      refine ⟨fun i m H' => i + m = items.length ∧ ∃ (β : Led) (acc r : List D) (xs : List V) (μ' : Mu), Sat K β μ' H' ∧ β.hid = Zd :: α1.hid ∧ Mx α1 (stb α1 μ1 H1) β (stb β μ' H') ∧ H' Zd = some (.lst xs) ∧ DenL K β (stb β μ' H') acc xs ∧ acc.length ≤ i ∧
        compM gd gt ft fe (items.drop i) (wipeE ρ vs) μ' = .ok r μf ∧ acc ++ r = total, ⟨items.length, Nat.zero_add _, α1.hide Zd, [], total, [], μ1, sh, rfl, ⟨fun _ _ h => h, exh⟩, upd_same, .nil, Nat.zero_le _, hk, rfl⟩, ?_⟩
      rintro i m H2 ⟨hl, β, acc, r, xs, μ2, s2, hb, mx, hDx, rd, hacc, ec, et⟩
      have ebt : β = (⟨β.ad, Zd :: α1.hid⟩ : Led) := by rw [← hb]
      by_cases hlt : i < items.length
      · rw [List.drop_eq_getElem_cons hlt] at ec
        unfold compM at ec
        split at ec
        · rename_i hgd
          split at ec
          · cases ec
          · rename_i ρ3 e3
            refine .inr ⟨y.go i β μ2 H2 s2 mx hgd hlt, fun H' => ∃ (β : Led) (acc r : List D) (xs : List V) (μ' : Mu), Sat K β μ' H' ∧ β.hid = Zd :: α1.hid ∧ Mx α1 (stb α1 μ1 H1) β (stb β μ' H') ∧ H' Zd = some (.lst xs) ∧ DenL K β (stb β μ' H') acc xs ∧ acc.length ≤ i + 1 ∧
              compM gd gt ft fe (items.drop (i + 1)) (wipeE ρ vs) μ' = .ok r μf ∧ acc ++ r = total, fun H' z => ⟨m - 1, by omega, by omega, z⟩, fun x H3 hy => ?_⟩
            obtain ⟨s3, m3, k3, r3⟩ := y.yld i β μ2 H2 H3 x s2 mx hgd hy
            have rx := r3 _ (List.getElem?_eq_getElem hlt)
            have mx3 := mx.trans m3.x
            have l3 : Loc K β (stb β μ2 H3) (L2.wipe σ vs) (wipeE ρ vs) := ((l.mono m1).monow mx3.w).wipe vs
            refine ⟨stb β μ2 H3, β, _, _, ρ3, stb_sub, l3, rx, e3, fun σ4 l4 n4 k4 => ⟨wipe_eq sub n4 k4, ?_⟩⟩
            obtain ⟨bb, μ5, e5, ec⟩ := bind_ok_inv ec
            refine ⟨β, ρ3, μ2, s3, l4, ?_⟩
            rw [e5]
            intro β5 H5 s5 m5
            have hD3 : H3 Zd = some (.lst xs) := by rw [k3 Zd (by rw [hDx]; exact fun z => by cases z)]; exact hDx
            have keepD : ∀ {β' : Led} {μ' : Mu} {H' : Hp}, Mo β (stb β μ2 H3) β' (stb β' μ' H') → H' Zd = some (.lst xs) ∧ β'.hid = Zd :: α1.hid := fun m' => by
              have nl : Zd ∉ live β.ad μ2 := fun z => by
                obtain ⟨j, n, z1, z2, z3⟩ := mem_live.mp z
                exact s3.apart j Zd n z1 z2 (isGone_of z3) (by rw [hb]; exact List.mem_cons_self)
              exact ⟨(stb_some (m'.ext _ _ (stb_of hD3 nl))).1, m'.hid.trans hb⟩
            cases bb with
            | false =>
              obtain ⟨h5, h6⟩ := keepD m5
              exact ⟨β5, acc, r, xs, μ5, s5, h6, mx3.trans m5.x, h5, rd.mono (m3.trans m5), by omega, ec, et⟩
            | true =>
              rw [if_pos rfl] at ec
              obtain ⟨d6, μ6, e6, ec⟩ := bind_ok_inv ec
              obtain ⟨r7, μ7, e7, ec⟩ := bind_ok_inv ec
              cases ec
              refine ⟨β5, ρ3, μ5, s5, l4.mono m5, ?_⟩
              rw [e6]
              intro β6 H6 s6 m6 v6 r6
              obtain ⟨h5, h6⟩ := keepD (m5.trans m6)
              have eb6 : β6 = (⟨β6.ad, Zd :: α1.hid⟩ : Led) := by rw [← h6]
              obtain ⟨s8, ex8, mw8, w8⟩ := s6.hidden (u := .lst (xs ++ [v6])) eb6
              have rda := rd.mono (m3.trans (m5.trans m6))
              refine ⟨xs, h5, ?_, β6, acc ++ [d6], r7, xs ++ [v6], μ6, s8, h6, ⟨fun k a h => (mx3.trans (m5.trans m6).x).pre k a h, fun a o h => ?_⟩, upd_same, (rda.append (.cons r6 .nil)).monow mw8, by rw [List.length_append, List.length_singleton]; omega, e7, by rw [List.append_assoc]; exact et⟩
              · rw [← rd.length]
                omega
              · refine ex8 a o (fun z => ?_) ((mx3.trans (m5.trans m6).x).ext a o h)
                obtain ⟨c, o⟩ := o
                have := (stb_some h).1
                rw [z, hD] at this
                cases this
        · cases ec
      · rw [List.drop_eq_nil_of_le (by omega)] at ec
        unfold compM at ec
        split at ec
        · rename_i hgd
          cases ec
          rw [List.append_nil] at et
          subst et
          refine .inl ⟨y.stop i β _ H2 s2 mx hgd (by omega), ?_⟩
          unfold mkL at q
          cases b with
          | true =>
            rw [if_pos rfl] at q
            obtain ⟨s9, ex9, w9⟩ := s2.adopt (α := α1) ebt hDx rd nD
            refine q _ _ s9 ⟨fun k a h => ?_, fun a o h => ex9 a o (fun z => ?_) (mx.ext a o h), rfl⟩ _ (.own w9)
            · have := mx.pre k a h
              show (β.ad ++ [Zd])[k]? = some a
              rw [List.getElem?_append_left (List.getElem?_eq_some_iff.mp this).1]
              exact this
            · obtain ⟨c, o⟩ := o
              have := (stb_some h).1
              rw [z, hD] at this
              cases this
          | false =>
            rw [if_neg Bool.false_ne_true] at q
            obtain ⟨s9, ex9, mw9, w9⟩ := s2.show_ (α := α1) (xs := xs) ebt hDx nD
            refine q _ _ s9 ⟨fun k a h => mx.pre k a h, fun a o h => ex9 a o (fun z => ?_) (mx.ext a o h), rfl⟩ _ (.lst w9 (rd.monow mw9))
            obtain ⟨c, o⟩ := o
            have := (stb_some h).1
            rw [z, hD] at this
            cases this
        · cases ec
    · exact q.elim
  · exact q.elim
theorem de_lc (b : Bool) {elt tg iter : Expr} {ifs : List Expr} {scope : Scope} {own : List (Str × Nat)} {is : List Nat} {fi : FI} {gt : FG} {ft : FT} {fe : FE} (hc : X.calm = true) (hN : X.N.Nodup) (hi : DI X E tg iter fi) (ok : BlkOk X.N X.env.scope scope own)
    (hg : ∀ (s : Shared) (H : Hp) (C : Addr) (cl : List (Str × Addr)) (fp : List Addr), DG (X.blk s H scope (compEnvC scope cl C X.env) fp) tg is gt) (ht : ∀ (s : Shared) (H : Hp) (C : Addr) (cl : List (Str × Addr)) (fp : List Addr), DTs (X.blk s H scope (compEnvC scope cl C X.env) fp) E0 ifs ft)
    (he : ∀ (s : Shared) (H : Hp) (C : Addr) (cl : List (Str × Addr)) (fp : List Addr), DE (X.blk s H scope (compEnvC scope cl C X.env) fp) E0 elt fe) (sub : ∀ i ∈ is, i ∈ own.map (·.2) := by decide) (hs : ∀ x, foldedSetIterable iter X.env x = pure x := by intro _; rfl) :
    DE X E (.ListComp elt [⟨tg, iter, ifs, 0⟩] scope pos) (lcE b fi gt ft fe (own.map (·.2))) := by
  obtain ⟨wi, i1, i2⟩ := hi.ex
  exact ⟨_, pe_lc hc hN i1 ok (fun s H C cl fp => (hg s H C cl fp).pg) (fun s H C cl fp => (ht s H C cl fp).pts) (fun s H C cl fp => (he s H C cl fp).pe) hs, ev_lc i2 sub⟩
/-- y = [..] -/
theorem ds_setLc (i : Nat) (b : Bool) {y : Str} {py spos : Pos} {elt tg iter : Expr} {ifs : List Expr} {scope : Scope} {own : List (Str × Nat)} {is : List Nat} {fi : FI} {gt : FG} {ft : FT} {fe : FE} (hc : X.calm = true) (hN : X.N.Nodup) (hi : DI X E tg iter fi) (ok : BlkOk X.N X.env.scope scope own)
    (hg : ∀ (s : Shared) (H : Hp) (C : Addr) (cl : List (Str × Addr)) (fp : List Addr), DG (X.blk s H scope (compEnvC scope cl C X.env) fp) tg is gt) (ht : ∀ (s : Shared) (H : Hp) (C : Addr) (cl : List (Str × Addr)) (fp : List Addr), DTs (X.blk s H scope (compEnvC scope cl C X.env) fp) E0 ifs ft)
    (he : ∀ (s : Shared) (H : Hp) (C : Addr) (cl : List (Str × Addr)) (fp : List Addr), DE (X.blk s H scope (compEnvC scope cl C X.env) fp) E0 elt fe) (sub : ∀ i ∈ is, i ∈ own.map (·.2) := by decide)
    (hy : X.N[i]? = some y := by rfl) (hyl : X.env.scope.names.lookup y = some .local := by rfl) (hsw : swapsWith (.ListComp elt [⟨tg, iter, ifs, 0⟩] scope pos) (some (.Name y py)) spos.line X.env = pure true := by exact sw_true rfl rfl rfl (by decide +kernel)) (hs : ∀ x, foldedSetIterable iter X.env x = pure x := by intro _; rfl) :
    DS X E (.Assign [.Name y py] (.ListComp elt [⟨tg, iter, ifs, 0⟩] scope pos) spos) (asgS (lcE b fi gt ft fe (own.map (·.2))) (nameG i)) := by
  obtain ⟨wi, i1, i2⟩ := hi.ex
  refine ⟨_, ps_setLc hc hN hy hyl hsw i1 ok (fun s H C cl fp => (hg s H C cl fp).pg) (fun s H C cl fp => (ht s H C cl fp).pts) (fun s H C cl fp => (he s H C cl fp).pe) hs, ev_asg (is := [i]) (ev_lc i2 sub) fun v σ H S α d ρ ρ' Q e l r h q => ?_⟩
  cases h
  refine q _ (l.set r i) (List.length_set ..) fun j hj => ?_
  rw [List.getElem?_set_ne (fun z => hj (by rw [z]; exact List.mem_singleton.mpr rfl))]
end
end Dt

/-! Dt8: defs and the law's end, by data. -/
namespace Dt
open PySem PySem.Spec PyProof.Rows L2
mutual
/-- no handle from n on -/
def closedD (n : Nat) : D → Bool
  | .own k => decide (k < n)
  | .lst ds => closedDs n ds
  | .tup ds => closedDs n ds
  | .obj _ _ ds => closedDs n ds
  | _ => true
def closedDs (n : Nat) : List D → Bool
  | [] => true
  | d :: ds => closedD n d && closedDs n ds
end
def closedM (n : Nat) : MO → Bool
  | .lst ds => closedDs n ds
  | .dK kvs => closedDs n (kvs.map (·.2))
  | .dT kvs => closedDs n (kvs.map (·.2))
  | .ins _ fs => closedDs n (fs.map (·.2))
  | .lck m => closedM n m
  | .gone => true
section
variable {K : PySem.W.Frag} {α β : Led} {S S' : Stb}
mutual
theorem den_closed : ∀ {d : D} {v : V}, Den K α S d v → closedD α.ad.length d = true
  | .own k, v, h => by
    obtain ⟨a, e, _⟩ := h.own_inv
    exact decide_eq_true (List.getElem?_eq_some_iff.mp e).1
  | .lst ds, v, h => by obtain ⟨a, xs, _, _, r⟩ := h.lst_inv; exact dens_closed r
  | .tup ds, v, h => by obtain ⟨a, xs, _, _, r⟩ := h.tup_inv; exact dens_closed r
  | .obj _ _ ds, v, h => by obtain ⟨a, dx, xs, _, _, _, r⟩ := h.obj_inv; exact dens_closed r
  | .non, v, h => rfl
  | .bl _, v, h => rfl
  | .int _, v, h => rfl
  | .str _, v, h => rfl
  | .ref _, v, h => rfl
  | .ty _, v, h => rfl
  | .scr _, v, h => rfl
theorem dens_closed : ∀ {ds : List D} {vs : List V}, DenL K α S ds vs → closedDs α.ad.length ds = true
  | [], vs, h => rfl
  | d :: ds, vs, h => by
    obtain ⟨v, t, _, h1, h2⟩ := h.cons_inv
    unfold closedDs
    rw [den_closed h1, dens_closed h2]
    rfl
end
theorem kd_closed {κ κ' : Type} {f : κ → κ'} : ∀ {kvs : List (κ × D)} {ys : List (κ' × V)}, KD K α S f kvs ys → closedDs α.ad.length (kvs.map (·.2)) = true
  | [], ys, h => rfl
  | p :: r, ys, h => by
    obtain ⟨v, t, _, h1, h2⟩ := h
    rw [List.map_cons]
    unfold closedDs
    rw [den_closed h1, kd_closed h2]
    rfl
theorem mrep_closed : ∀ {m : MO} {o : HO}, MRep K α S m o → closedM α.ad.length m = true
  | .lst ds, o, h => by obtain ⟨xs, _, r⟩ := h; exact dens_closed r
  | .dK ds, o, h => by obtain ⟨xs, _, r, _⟩ := h; exact kd_closed r
  | .dT ds, o, h => by obtain ⟨xs, _, r, _⟩ := h; exact kd_closed r
  | .ins C ds, o, h => by obtain ⟨dx, xs, _, r⟩ := h; exact kd_closed r
  | .lck m, o, h => by obtain ⟨ob, u, _, r⟩ := h; exact mrep_closed (m := m) r
  | .gone, o, h => rfl
variable (hk : ∀ (k : Nat) (a : Addr), k < α.ad.length → β.ad[k]? = some a → α.ad[k]? = some a) (he : ∀ (a : Addr) (o : HO), leanO o = true → S' a = some (true, o) → S a = some (true, o))
include hk he
mutual
theorem den_back : ∀ {d : D} {v : V}, closedD α.ad.length d = true → Den K β S' d v → Den K α S d v
  | .own k, v, c, h => by
    obtain ⟨a, e, rfl⟩ := h.own_inv
    exact .own (hk k a (of_decide_eq_true c) e)
  | .lst ds, v, c, h => by obtain ⟨a, xs, rfl, e, r⟩ := h.lst_inv; exact .lst (he _ _ rfl e) (dens_back c r)
  | .tup ds, v, c, h => by obtain ⟨a, xs, rfl, e, r⟩ := h.tup_inv; exact .tup (he _ _ rfl e) (dens_back c r)
  | .obj _ _ ds, v, c, h => by obtain ⟨a, dx, xs, rfl, e, l, r⟩ := h.obj_inv; exact .obj (he _ _ rfl e) l (dens_back c r)
  | .non, v, c, h => by rw [h.non_inv]; exact .non
  | .bl _, v, c, h => by rw [h.bl_inv]; exact .bl
  | .int _, v, c, h => by rw [h.int_inv]; exact .int
  | .str _, v, c, h => by obtain ⟨rfl, o⟩ := h.str_inv; exact .str o
  | .ref _, v, c, h => by rw [h.ref_inv]; exact .ref
  | .ty _, v, c, h => by rw [h.ty_inv]; exact .ty
  | .scr ns, v, c, h => by
    obtain ⟨a, rfl, h1⟩ := h.scr_inv
    unfold Den
    exact ⟨a, rfl, Or.elim h1 (fun z => Exists.elim z fun ob y => Or.inl (Exists.intro ob (he _ _ rfl y))) Or.inr⟩
theorem dens_back : ∀ {ds : List D} {vs : List V}, closedDs α.ad.length ds = true → DenL K β S' ds vs → DenL K α S ds vs
  | [], vs, c, h => by rw [h.nil_inv]; exact .nil
  | d :: ds, vs, c, h => by
    obtain ⟨v, t, rfl, h1, h2⟩ := h.cons_inv
    unfold closedDs at c
    rw [Bool.and_eq_true] at c
    exact .cons (den_back c.1 h1) (dens_back c.2 h2)
end
theorem kd_back {κ κ' : Type} {f : κ → κ'} : ∀ {kvs : List (κ × D)} {ys : List (κ' × V)}, closedDs α.ad.length (kvs.map (·.2)) = true → KD K β S' f kvs ys → KD K α S f kvs ys
  | [], ys, c, h => h
  | p :: r, ys, c, h => by
    obtain ⟨v, t, e, h1, h2⟩ := h
    rw [List.map_cons] at c
    unfold closedDs at c
    rw [Bool.and_eq_true] at c
    exact ⟨v, t, e, den_back hk he c.1 h1, kd_back c.2 h2⟩
theorem mrep_back : ∀ {m : MO} {o : HO}, closedM α.ad.length m = true → MRep K β S' m o → MRep K α S m o
  | .lst ds, o, c, h => by obtain ⟨xs, e, r⟩ := h; exact ⟨xs, e, dens_back hk he c r⟩
  | .dK ds, o, c, h => by obtain ⟨xs, e, r, ko⟩ := h; exact ⟨xs, e, kd_back hk he c r, ko⟩
  | .dT ds, o, c, h => by obtain ⟨xs, e, r, ko⟩ := h; exact ⟨xs, e, kd_back hk he c r, ko⟩
  | .ins C ds, o, c, h => by obtain ⟨dx, xs, e, r⟩ := h; exact ⟨dx, xs, e, kd_back hk he c r⟩
  | .lck m, o, c, h => by obtain ⟨ob, u, e, r⟩ := h; exact ⟨ob, u, e, mrep_back (m := m) c r⟩
  | .gone, o, c, h => h
end

/-- behind a def: what it made and does not hand back is forgotten -/
def TrimOk (μ : Mu) (d : D) (μ' : Mu) : Prop := closedD μ.length d = true ∧ ∀ (i : Nat) (m : MO), i < μ.length → μ'[i]? = some m → μ[i]? = some m ∨ closedM μ.length m = true
open Classical in
noncomputable def trim (tr : Bool) (μ : Mu) (d : D) (μ' : Mu) : Out D := if tr then (if TrimOk μ d μ' then .ok d (μ'.take μ.length) else .bad) else .ok d μ'
theorem live_take : ∀ {α : List Addr} {μ : Mu} {n : Nat} {b : Addr}, b ∈ live (α.take n) (μ.take n) → b ∈ live α μ := fun {α μ n b} h => by
  obtain ⟨i, m, h1, h2, h3⟩ := mem_live.mp h
  have g : ∀ {β : Type} {l : List β} {x : β}, (l.take n)[i]? = some x → l[i]? = some x := fun {β l x} e => by
    have hi := (List.getElem?_eq_some_iff.mp e).1
    rw [List.length_take] at hi
    rw [List.getElem?_take_of_lt (by omega)] at e
    exact e
  exact mem_live.mpr ⟨i, m, g h1, g h2, h3⟩
theorem trim_ok {K : PySem.W.Frag} {E : XK} {α α' : Led} {μ μ' : Mu} {H H' : Hp} {d : D} {tr : Bool} {Q : VK} (s : Sat K α μ H) (s' : Sat K α' μ' H') (m : Mo α (stb α μ H) α' (stb α' μ' H')) (h : Meets K E α (stb α μ H) (trim tr μ d μ') (RD K Q)) : RD K Q d μ' α' H' := by
  intro v r
  unfold trim at h
  cases tr with
  | false => exact h _ _ s' m v r
  | true =>
    rw [if_pos rfl] at h
    split at h
    · rename_i ok
      have hn : α.ad.length = μ.length := s.len
      have hle : μ.length ≤ α'.ad.length := by
        rw [← hn]
        cases hz : α.ad.length with
        | zero => omega
        | succ n =>
          have := m.pre n _ (List.getElem?_eq_getElem (show n < α.ad.length by omega))
          have := (List.getElem?_eq_some_iff.mp this).1
          omega
      have eα : α'.ad.take μ.length = α.ad := by
        refine List.ext_getElem? fun i => ?_
        by_cases hi : i < μ.length
        · rw [List.getElem?_take_of_lt hi]
          have h1 := List.getElem?_eq_getElem (show i < α.ad.length by omega)
          rw [h1]
          exact m.pre i _ h1
        · rw [List.getElem?_eq_none (by rw [List.length_take]; omega), List.getElem?_eq_none (by omega)]
      have lv : ∀ b, b ∈ live α.ad (μ'.take μ.length) → b ∈ live α'.ad μ' := fun b hb => by
        rw [← eα] at hb
        exact live_take hb
      have he : ∀ (a : Addr) (o : Bool × HO), stb α' μ' H' a = some o → stb α (μ'.take μ.length) H' a = some o := fun a o h => by
        obtain ⟨c, o⟩ := o
        obtain ⟨h1, h2, rfl⟩ := stb_some h
        rw [m.hid]
        exact stb_of h1 fun z => h2 (lv a z)
      have hk : ∀ (k : Nat) (a : Addr), k < α.ad.length → α'.ad[k]? = some a → α.ad[k]? = some a := fun k a hlt e => by
        have h1 := List.getElem?_eq_getElem hlt
        have h2 := m.pre k _ h1
        rw [e] at h2
        rw [h1]
        exact h2.symm
      have up : ∀ (k : Nat) (a : Addr), α.ad[k]? = some a → α'.ad[k]? = some a := m.pre
      have get : ∀ {i : Nat} {x : MO}, (μ'.take μ.length)[i]? = some x → i < μ.length ∧ μ'[i]? = some x := fun {i x} e => by
        have hi := (List.getElem?_eq_some_iff.mp e).1
        rw [List.length_take] at hi
        rw [List.getElem?_take_of_lt (by omega)] at e
        exact ⟨by omega, e⟩
      have st : Sat K α (μ'.take μ.length) H' := by
        refine ⟨by rw [List.length_take, s.len, ← s'.len]; omega, fun a ha => s'.hid a (by rw [m.hid]; exact ha), fun k a n h1 h2 h3 => ?_, fun i j a m1 m2 h1 h2 h3 h4 g1 g2 => s'.inj i j a m1 m2 (up i a h1) (up j a h2) (get h3).2 (get h4).2 g1 g2, fun k a n h1 h2 h3 => ?_⟩
        · rw [← m.hid]
          exact s'.apart k a n (up k a h1) (get h2).2 h3
        · obtain ⟨hlt, h2'⟩ := get h2
          obtain ⟨o, h4, h5⟩ := s'.obj k a n (up k a h1) h2' h3
          refine ⟨o, h4, mrep_back hk (fun a o _ h => he a _ h) ?_ h5⟩
          rw [s.len]
          rcases ok.2 k n hlt h2' with z | z
          · obtain ⟨o2, _, h6⟩ := s.obj k a n h1 z h3
            rw [← s.len]
            exact mrep_closed h6
          · exact z
      refine h α H' st ⟨fun _ _ h => h, fun a o h => he a o (m.ext a o h), rfl⟩ v ?_
      exact den_back hk (fun a o _ h => he a _ h) (by rw [s.len]; exact ok.1) r
    · exact h.elim

/-! ### defs -/
def startE (n : Nat) (ds : List D) : Env := ds.map some ++ List.replicate (n - ds.length) none
noncomputable def fnF (n : Nat) (tr : Bool) (fb : FS) : FF := fun ds μ => match fb (startE n ds) μ with
  | .ok (.rt d) μ' => trim tr μ d μ'
  | .ok (.nx _) μ' => trim tr μ .non μ'
  | _ => .bad
section
variable {P : Program} {w : World} {K : PySem.W.Frag} {mg : Str → Option Value} {base : Heap}
theorem fn_ok {x qual : Str} {st : Stmt} {f : Addr} {fd : FuncData} {N ps : List Str} {k : Nat} {fb : FS} (tr : Bool) (F : Fun K x qual st f fd) (S : FnScope N ps (defScope st)) (b : Binds K fd ps [])
    (body : ∀ (cdv : Value) (A : Around) (outer : List PySem.Env) (s : Shared) (H : Hp) (E : XK), Room k (A.deeper (envOfC qual (defScope st) s.heap.objs.size f cdv)) →
      DSs (cxOf CX0 P w K mg base N qual (defScope st) f cdv A outer s H E).nox E0 (defBody st) fb) : FnD P w K mg base CX0 (k + 1) f fd ps (fnF N.length tr fb) := by
  refine ⟨F.ok S (fun vs H Q E h => h.1) (fun cdv A outer s H vs Q E hr h => ?_), b, F.kp⟩
  obtain ⟨hl, ds, α, μ, sat, r, hm⟩ := h
  obtain ⟨t, h1, h2⟩ := (body cdv A outer s H E hr).ex
  refine ⟨t, h1, h2 (L2.start N vs) H α (startE N.length ds) μ _ sat (Loc.start r) ?_⟩
  unfold fnF at hm
  split at hm
  · rename_i d μ' e
    rw [e]
    intro α' H' s' m'
    exact trim_ok sat s' m' hm
  · rename_i ρ' μ' e
    rw [e]
    intro α' H' s' m' σ l
    exact trim_ok sat s' m' hm _ .non
  · exact hm.elim
end
/-- a def is as good as another function that agrees where the first one is no failure -/
theorem FnD.imp {P : Program} {w : World} {K : PySem.W.Frag} {mg : Str → Option Value} {base : Heap} {CX : CXT} {k : Nat} {f : Addr} {fd : FuncData} {ps : List Str} {g g' : FF} (F : FnD P w K mg base CX k f fd ps g) (h : ∀ ds μ, g' ds μ = .bad ∨ g' ds μ = g ds μ) : FnD P w K mg base CX k f fd ps g' := by
  refine ⟨F.ok.imp fun vs H Q E hq => ?_, F.bd, F.kp⟩
  obtain ⟨hl, ds, α, μ, s, r, hm⟩ := hq
  refine ⟨hl, ds, α, μ, s, r, ?_⟩
  rcases h ds μ with e | e
  · rw [e] at hm; exact hm.elim
  · rw [← e]; exact hm
theorem FnD.mono {P : Program} {w : World} {K : PySem.W.Frag} {mg : Str → Option Value} {base : Heap} {CX : CXT} {j k : Nat} {f : Addr} {fd : FuncData} {ps : List Str} {g : FF} (F : FnD P w K mg base CX j f fd ps g) (h : j ≤ k) : FnD P w K mg base CX k f fd ps g := ⟨F.ok.mono h, F.bd, F.kp⟩

/-! ### the law -/
theorem law_sp {K : PySem.W.Frag} {g : FF} {H : Hp} {a : Addr} {ns : List Int} (hO : Only H) (hS : SqL K H a (ns.map V.int)) (h : ∃ μ', g [.scr ns] [] = .ok (.bl true) μ') : spOf K 1 g [.ref a] H (fun v _ => v = .bl true) fun _ _ _ => False := by
  obtain ⟨μ', e⟩ := h
  refine ⟨rfl, [.scr ns], ⟨[], []⟩, [], ⟨rfl, fun a ha => (by cases ha), fun k a m h => (by simp at h), fun i j a m n h => (by simp at h), fun k a m h => (by simp at h)⟩, .cons ?_ .nil, ?_⟩
  · unfold Den
    refine ⟨a, rfl, ?_⟩
    rcases hS with (h | ⟨o, h⟩) | h
    · rcases hO a with z | ⟨o, xs, z⟩
      · rw [z] at h; cases h
      · rw [z] at h; cases h
    · refine .inl ⟨o, ?_⟩
      rw [stb_of h (by simp [live])]
      rfl
    · exact .inr h
  · rw [e]
    intro α' H' s m v r
    exact r.bl_inv
end Dt

/-! Dt9: isinstance; the law's end; small facts. -/
namespace Dt
open PySem PySem.Spec PyProof.Rows L2
theorem boot_len_ : bootBuiltins "len" = some (.builtin "len") := by decide +kernel
theorem boot_max_ : bootBuiltins "max" = some (.builtin "max") := by decide +kernel
theorem boot_min_ : bootBuiltins "min" = some (.builtin "min") := by decide +kernel
theorem boot_sum_ : bootBuiltins "sum" = some (.builtin "sum") := by decide +kernel
theorem boot_sorted_ : bootBuiltins "sorted" = some (.builtin "sorted") := by decide +kernel
theorem boot_isinstance_ : bootBuiltins "isinstance" = some (.builtin "isinstance") := by decide +kernel
theorem boot_int_ : bootBuiltins "int" = some (.type "int") := by decide +kernel
theorem boot_str_ : bootBuiltins "str" = some (.type "str") := by decide +kernel
theorem boot_bool_ : bootBuiltins "bool" = some (.type "bool") := by decide +kernel
theorem boot_list_ : bootBuiltins "list" = some (.type "list") := by decide +kernel
theorem boot_tuple_ : bootBuiltins "tuple" = some (.type "tuple") := by decide +kernel
/-! ### isinstance of built-in types -/
def tyD (d : D) (μ : Mu) : Option String := match d with
  | .non => some "NoneType"
  | .bl _ => some "bool"
  | .int _ => some "int"
  | .str _ => some "str"
  | .lst _ => some "list"
  | .tup _ => some "tuple"
  | .own k => match moL μ[k]? with
    | some _ => some "list"
    | none => none
  | _ => none
def tyFrom : List String := ["NoneType", "bool", "int", "str", "list", "tuple"]
def tyTo : List String := ["bool", "int", "str", "list", "tuple"]
def subTy (a b : String) : Bool := a == b || (a == "bool" && b == "int")
theorem kit_all : (tyFrom.all fun a => tyTo.all fun b => kitB a b == some (subTy a b)) = true := by decide +kernel
def kitD (a b : String) : Option Bool := if tyFrom.contains a && tyTo.contains b then some (subTy a b) else none
theorem kitD_ok {K : PySem.W.Frag} {a b : String} {r : Bool} (h : kitD a b = some r) : PySem.W.kitOne K (.type a) (.type b) = some r := by
  unfold kitD at h
  split at h
  · rename_i c
    rw [Bool.and_eq_true, List.contains_iff_mem, List.contains_iff_mem] at c
    have h1 := List.all_eq_true.mp (List.all_eq_true.mp kit_all a c.1) b c.2
    rw [beq_iff_eq] at h1
    rw [h] at h1 <;> exact kit_ty (by rw [h1, ← h])
  · cases h
def isiF : FF := fun ds μ => match ds with
  | [d, .ty T] => match tyD d μ with
    | some a => match kitD a T with
      | some b => .ok (.bl b) μ
      | none => .bad
    | none => .bad
  | [d, .tup [.ty T, .ty U]] => match tyD d μ with
    | some a => match kitD a T, kitD a U with
      | some b, some c => .ok (.bl (b || c)) μ
      | _, _ => .bad
    | none => .bad
  | _ => .bad
section
variable {K : PySem.W.Frag} {α : Led} {μ : Mu} {H : Hp}
theorem tyD_ok {d : D} {v : V} {a : String} (s : Sat K α μ H) (r : Den K α (stb α μ H) d v) (h : tyD d μ = some a) : TyX K H v (.type a) := by
  unfold tyD at h
  split at h
  · cases h; rw [r.non_inv]; exact .base .non
  · cases h; rw [r.bl_inv]; exact .base (.bl _)
  · cases h; rw [r.int_inv]; exact .base (.int _)
  · cases h; rw [r.str_inv.1]; exact .base (.str _)
  · cases h
    obtain ⟨p, xs, rfl, e, _⟩ := r.lst_inv
    exact .base (.lst (stb_some e).1)
  · cases h
    obtain ⟨p, xs, rfl, e, _⟩ := r.tup_inv
    exact .base (.tup (stb_some e).1)
  · split at h
    · rename_i e
      cases h
      obtain ⟨p, o, rfl, _, h1, xs, rfl, h2⟩ := own_at s r (moL_of e) rfl
      exact .base (.lst h1)
    · cases h
  · cases h
end
section
variable {X : Cx} {E : XK}
theorem dc_isi : DC X E (.builtin "isinstance") isiF := by
  refine ⟨_, CallR.or call_isi call_isiT, fun xs H α ds μ Q s r h => ?_⟩
  unfold isiF at h
  split at h
  · obtain ⟨v, w, rfl, r1, r2⟩ := r.two_inv
    obtain rfl := r2.ty_inv
    split at h
    · rename_i e1
      split at h
      · rename_i e2
        exact .inl ⟨v, _, _, _, _, rfl, .ty _, tyD_ok s r1 e1, kitD_ok e2, same_ok s .bl h⟩
      · exact h.elim
    · exact h.elim
  · obtain ⟨v, w, rfl, r1, r2⟩ := r.two_inv
    obtain ⟨p, xs, rfl, e0, r3⟩ := r2.tup_inv
    obtain ⟨t1, t2, rfl, q1, q2⟩ := r3.two_inv
    obtain rfl := q1.ty_inv
    obtain rfl := q2.ty_inv
    split at h
    · rename_i e1
      split at h
      · rename_i b c e2 e3
        refine .inr ⟨v, p, _, _, [_, _], _, rfl, (stb_some e0).1, .cons (.ty _) (.cons (.ty _) .nil), tyD_ok s r1 e1, kitAny_cons (r := b || c) (kitD_ok e2) (fun hb => kitAny_cons (kitD_ok e3) (fun hc => by rw [kitAny_nil, hb, hc] <;> rfl) (fun hc => by rw [hc, Bool.or_true])) (fun hb => by rw [hb, Bool.true_or]), same_ok s .bl h⟩
      · exact h.elim
    · exact h.elim
  · exact h.elim
theorem de_ty {T : String} {x : Str} {pos : Pos} (hm : X.mg x = none) (hv : bootBuiltins x = some (.type T)) (hg : Gl X x := by rfl) (hn : x ≠ "__name__" := by decide) (hd : (x == ("__debug__" : Str)) = false := by decide) : DE X E (.Name x pos) (cE (.ty T)) :=
  de_const (pe_bltn (v := .ty T) hg hm hv rfl hn hd) fun _ _ _ => .ty
end
/-! ### the law -/
theorem law_end {K : PySem.W.Frag} {g : FF} {H : Hp} {a : Addr} {ns : List Int} {Q : VK} {E : XK} (hO : Only H) (hS : SqL K H a (ns.map V.int)) (h : ∃ μ', g [.scr ns] [] = .ok (.bl true) μ') (hQ : ∀ v H', v = .bl true → Q v H') : spOf K 1 g [.ref a] H Q E := by
  obtain ⟨h1, ds, α, μ, s, r, m⟩ := law_sp hO hS h
  obtain ⟨μ', e⟩ := h
  refine ⟨rfl, [.scr ns], ⟨[], []⟩, [], ⟨rfl, fun a ha => (by cases ha), fun k a m h => (by simp at h), fun i j a m n h => (by simp at h), fun k a m h => (by simp at h)⟩, .cons ?_ .nil, ?_⟩
  · unfold Den
    refine ⟨a, rfl, ?_⟩
    rcases hS with (h | ⟨o, h⟩) | h
    · rcases hO a with z | ⟨o, xs, z⟩
      · rw [z] at h; cases h
      · rw [z] at h; cases h
    · refine .inl ⟨o, ?_⟩
      rw [stb_of h (by simp [live])]
      rfl
    · exact .inr h
  · rw [e]
    intro α' H' s m v r
    exact hQ v H' r.bl_inv
end Dt

/-! Dt10: is of truth values; texts turned round; list of a text; remove. -/
namespace Dt
open PySem PySem.Spec PyProof.Rows L2
section
variable {X : Cx} {E : XK}
/-- is of truth values -/
def isBlD : D → D → Mu → Out D
  | .bl a, .bl b, μ => .ok (.bl (decide (a = b))) μ
  | _, _, _ => .bad
theorem d2_isBl : D2 X E (compareOp .Is) isBlD := by
  refine ⟨_, op_isBl, fun x y H α dx dy μ Q s rx ry h => ?_⟩
  unfold isBlD at h
  split at h
  · obtain rfl := rx.bl_inv
    obtain rfl := ry.bl_inv
    exact ⟨_, _, rfl, rfl, same_ok s .bl h⟩
  · exact h.elim
end
/-! ### a < b < c < d as a test -/
section
variable {X : Cx} {E : XK} {a b c d : Expr} {pos : Pos} {ta tb tc td : TE}
def tChain3 (r r' r'' : R2) (ta tb tc td : TE) : TT := fun σ H Q => ta σ H fun x H1 => tb σ H1 fun y H2 => r x y H2 fun z H3 => ∃ k, z = .bl k ∧ (if k then tc σ H3 fun w H4 => r' y w H4 fun z2 H5 => ∃ k2, z2 = .bl k2 ∧ (if k2 then td σ H5 fun u H6 => r'' w u H6 fun z3 H7 => ∃ k3, z3 = .bl k3 ∧ Q k3 H7 else Q false H5) else Q false H3)
theorem pt_chain3 {o1 o2 o3 : CmpOp} {r r' r'' : R2} (ho : OpR X (compareOp o1) r) (ho' : OpR X (compareOp o2) r') (ho'' : OpR X (compareOp o3) r'') (ha : PE X a ta) (hb : PE X b tb) (hc : PE X c tc) (hd : PE X d td)
    (hm : lastMarks [o1, o2, o3] [b, c, d] = false := by with_unfolding_all rfl) : PT X (.Compare a [o1, o2, o3] [b, c, d] pos) (tChain3 r r' r'' ta tb tc td) := by
  refine ⟨fun pins s σ H Q I h => ?_⟩
  refine isTrue_chain (thn (ha.run pins s σ H _ I h) fun v s1 ⟨x, H1, I1, r1, q1⟩ => test_link (thn (hb.run pins s1 σ H1 _ I1 q1) fun u s2 ⟨y, H2, I2, r2, q2⟩ =>
    thn (ho pins s2 σ H2 x y v u _ I2 r1 r2 q2) fun e s3 ⟨z, H3, I3, r3, k, ek, q3⟩ => ?_)) hm
  subst ek
  cases r3
  refine wpAny_truthy_bool ?_
  cases k with
  | false => exact ite_ff ⟨H3, I3, q3⟩
  | true =>
    refine ite_tt (test_link (thn (hc.run pins s3 σ H3 _ I3 q3) fun w' s4 ⟨z', H4, I4, r4, q4⟩ => thn (ho' pins s4 σ H4 y z' u w' _ I4 r2 r4 q4) fun e' s5 ⟨z2, H5, I5, r5, k2, e2, q5⟩ => ?_))
    subst e2
    cases r5
    refine wpAny_truthy_bool ?_
    cases k2 with
    | false => exact ite_ff ⟨H5, I5, q5⟩
    | true =>
      refine ite_tt (test_last (thn (hd.run pins s5 σ H5 _ I5 q5) fun w2 s6 ⟨z3, H6, I6, r6, q6⟩ => thn (ho'' pins s6 σ H6 z' z3 w' w2 _ I6 r4 r6 q6) fun d' s7 ⟨z4, H7, I7, r7, k3, e3, q7⟩ => ?_))
      subst e3
      cases r7
      exact wpAny_truthy_bool ⟨H7, I7, q7⟩
def ch3T (g g' g'' : D → D → Mu → Out D) (fa fb fc fd : FE) : FT := fun ρ μ => (fa ρ μ).bind fun x μ1 => (fb ρ μ1).bind fun y μ2 => (g x y μ2).bind fun z μ3 => match z with
  | .bl true => (fc ρ μ3).bind fun w μ4 => (g' y w μ4).bind fun z2 μ5 => match z2 with
    | .bl true => (fd ρ μ5).bind fun u μ6 => (g'' w u μ6).bind fun z3 μ7 => match z3 with
      | .bl b => .ok b μ7
      | _ => .bad
    | .bl false => .ok false μ5
    | _ => .bad
  | .bl false => .ok false μ3
  | _ => .bad
theorem dt_chain3 {o1 o2 o3 : CmpOp} {g g' g'' : D → D → Mu → Out D} {fa fb fc fd : FE} (h : D2 X E (compareOp o1) g) (h' : D2 X E (compareOp o2) g') (h'' : D2 X E (compareOp o3) g'') (ha : DE X E a fa) (hb : DE X E b fb) (hc : DE X E c fc) (hd : DE X E d fd) (hm : lastMarks [o1, o2, o3] [b, c, d] = false := by rfl) : DT X E (.Compare a [o1, o2, o3] [b, c, d] pos) (ch3T g g' g'' fa fb fc fd) := by
  obtain ⟨r, p1, p2⟩ := h.ex
  obtain ⟨r', p1', p2'⟩ := h'.ex
  obtain ⟨r'', p1'', p2''⟩ := h''.ex
  obtain ⟨ta, a1, a2⟩ := ha.ex
  obtain ⟨tb, b1, b2⟩ := hb.ex
  obtain ⟨tc, c1, c2⟩ := hc.ex
  obtain ⟨td, d1, d2⟩ := hd.ex
  refine ⟨_, pt_chain3 p1 p1' p1'' a1 b1 c1 d1 (hm := hm), fun σ H α ρ μ Q s l hmt => ?_⟩
  refine a2 σ H α ρ μ _ s l (hmt.bind.mono fun x μ1 α1 H1 _ s1 m1 h1 v1 r1 => ?_)
  refine b2 σ H1 α1 ρ μ1 _ s1 (l.mono m1) (h1.bind.mono fun y μ2 α2 H2 _ s2 m2 h2 v2 r2 => ?_)
  refine p2 v1 v2 H2 α2 x y μ2 _ s2 (r1.mono m2) r2 (h2.bind.mono fun z μ3 α3 H3 _ s3 m3 h3 v3 r3 => ?_)
  split at h3
  · refine ⟨true, r3.bl_inv, ?_⟩
    rw [if_pos rfl]
    refine c2 σ H3 α3 ρ μ3 _ s3 (l.mono ((m1.trans m2).trans m3)) (h3.bind.mono fun w μ4 α4 H4 _ s4 m4 h4 v4 r4 => ?_)
    refine p2' v2 v4 H4 α4 y w μ4 _ s4 (r2.mono (m3.trans m4)) r4 (h4.bind.mono fun z2 μ5 α5 H5 _ s5 m5 h5 v5 r5 => ?_)
    split at h5
    · refine ⟨true, r5.bl_inv, ?_⟩
      rw [if_pos rfl]
      refine d2 σ H5 α5 ρ μ5 _ s5 (l.mono ((((m1.trans m2).trans m3).trans m4).trans m5)) (h5.bind.mono fun u μ6 α6 H6 _ s6 m6 h6 v6 r6 => ?_)
      refine p2'' v4 v6 H6 α6 w u μ6 _ s6 (r4.mono (m5.trans m6)) r6 (h6.bind.mono fun z3 μ7 α7 H7 _ s7 m7 h7 v7 r7 => ?_)
      split at h7
      · exact ⟨_, r7.bl_inv, h7 _ _ s7 (Mo.refl _ _)⟩
      · exact h7.elim
    · refine ⟨false, r5.bl_inv, ?_⟩
      rw [if_neg Bool.false_ne_true]
      exact h5 _ _ s5 (Mo.refl _ _)
    · exact h5.elim
  · refine ⟨false, r3.bl_inv, ?_⟩
    rw [if_neg Bool.false_ne_true]
    exact h3 _ _ s3 (Mo.refl _ _)
  · exact h3.elim
end
/-! ### defs that hand a new list to their caller -/
open Classical in
noncomputable def trimO (μ : Mu) (d : D) (μ' : Mu) : Out D := match d with
  | .own k => match moL μ'[k]? with
    | some ds => if μ.length ≤ k ∧ closedDs μ.length ds = true ∧ ∀ (i : Nat) (m : MO), i < μ.length → μ'[i]? = some m → μ[i]? = some m ∨ closedM μ.length m = true then .ok (.own μ.length) (μ'.take μ.length ++ [.lst ds]) else .bad
    | none => .bad
  | _ => trim true μ d μ'
theorem trimO_ok {K : PySem.W.Frag} {E : XK} {α α' : Led} {μ μ' : Mu} {H H' : Hp} {d : D} {Q : VK} (s : Sat K α μ H) (s' : Sat K α' μ' H') (m : Mo α (stb α μ H) α' (stb α' μ' H')) (h : Meets K E α (stb α μ H) (trimO μ d μ') (RD K Q)) : RD K Q d μ' α' H' := by
  intro v r
  unfold trimO at h
  split at h
  · rename_i k
    split at h
    · rename_i ds e
      split at h
      · rename_i ok
        obtain ⟨hk0, hcl, hold⟩ := ok
        have ek := moL_of e
        obtain ⟨a, ha, rfl⟩ := r.own_inv
        have hn : α.ad.length = μ.length := s.len
        have hle : μ.length ≤ α'.ad.length := by
          have := (List.getElem?_eq_some_iff.mp ha).1
          omega
        have hl' : α'.ad.length = μ'.length := s'.len
        have eα : α'.ad.take μ.length = α.ad := by
          refine List.ext_getElem? fun i => ?_
          by_cases hi : i < μ.length
          · rw [List.getElem?_take_of_lt hi]
            have h1 := List.getElem?_eq_getElem (show i < α.ad.length by omega)
            rw [h1]
            exact m.pre i _ h1
          · rw [List.getElem?_eq_none (by rw [List.length_take]; omega), List.getElem?_eq_none (by omega)]
        have htl : (μ'.take μ.length).length = μ.length := by rw [List.length_take]; omega
        have gA : ∀ {i : Nat} {x : Addr}, (α.ad ++ [a])[i]? = some x → ∃ j, α'.ad[j]? = some x ∧ ((i < μ.length ∧ j = i) ∨ (i = μ.length ∧ j = k)) := fun {i x} q => by
          by_cases hi : i < μ.length
          · rw [List.getElem?_append_left (by omega)] at q
            exact ⟨i, m.pre i x q, .inl ⟨hi, rfl⟩⟩
          · have : i = μ.length := by
              have := (List.getElem?_eq_some_iff.mp q).1
              rw [List.length_append] at this
              have h1 : [a].length = 1 := rfl
              omega
            subst this
            rw [List.getElem?_append_right (by omega), hn, Nat.sub_self] at q
            cases q
            exact ⟨k, ha, .inr ⟨rfl, rfl⟩⟩
        have gM : ∀ {i : Nat} {x : MO}, (μ'.take μ.length ++ [MO.lst ds])[i]? = some x → ∃ j, μ'[j]? = some x ∧ ((i < μ.length ∧ j = i) ∨ (i = μ.length ∧ j = k)) := fun {i x} q => by
          by_cases hi : i < μ.length
          · rw [List.getElem?_append_left (by omega), List.getElem?_take_of_lt hi] at q
            exact ⟨i, q, .inl ⟨hi, rfl⟩⟩
          · have : i = μ.length := by
              have := (List.getElem?_eq_some_iff.mp q).1
              rw [List.length_append, htl] at this
              have h1 : [MO.lst ds].length = 1 := rfl
              omega
            subst this
            rw [List.getElem?_append_right (by omega), htl, Nat.sub_self] at q
            cases q
            exact ⟨k, ek, .inr ⟨rfl, rfl⟩⟩
        have idx : ∀ {i j j' : Nat}, ((i < μ.length ∧ j = i) ∨ (i = μ.length ∧ j = k)) → ((i < μ.length ∧ j' = i) ∨ (i = μ.length ∧ j' = k)) → j = j' := fun {i j j'} x y => by omega
        have lv : ∀ b, b ∈ live (α.ad ++ [a]) (μ'.take μ.length ++ [MO.lst ds]) → b ∈ live α'.ad μ' := fun b hb => by
          obtain ⟨i, x, h1, h2, h3⟩ := mem_live.mp hb
          obtain ⟨j, q1, q2⟩ := gA h1
          obtain ⟨j', q3, q4⟩ := gM h2
          have := idx q2 q4
          subst this
          exact mem_live.mpr ⟨j, x, q1, q3, h3⟩
        have he : ∀ (b : Addr) (o : Bool × HO), stb α' μ' H' b = some o → stb (α.push a) (μ'.take μ.length ++ [MO.lst ds]) H' b = some o := fun b o h => by
          obtain ⟨c, o⟩ := o
          obtain ⟨h1, h2, rfl⟩ := stb_some h
          rw [m.hid]
          exact stb_of (α := α.push a) h1 fun z => h2 (lv b z)
        have hkk : ∀ (i : Nat) (b : Addr), i < α.ad.length → α'.ad[i]? = some b → α.ad[i]? = some b := fun i b hlt e => by
          have h1 := List.getElem?_eq_getElem hlt
          have h2 := m.pre i _ h1
          rw [e] at h2
          rw [h1]
          exact h2.symm
        have up : Mw α (stb (α.push a) (μ'.take μ.length ++ [MO.lst ds]) H') (α.push a) (stb (α.push a) (μ'.take μ.length ++ [MO.lst ds]) H') := ⟨fun i b q => by
          show (α.ad ++ [a])[i]? = some b
          rw [List.getElem?_append_left (List.getElem?_eq_some_iff.mp q).1]
          exact q, fun _ _ _ q => q⟩
        have back : ∀ {x : MO} {o : HO}, closedM μ.length x = true → MRep K α' (stb α' μ' H') x o → MRep K (α.push a) (stb (α.push a) (μ'.take μ.length ++ [MO.lst ds]) H') x o := fun {x o} c q =>
          MRep.monow up (mrep_back (α := α) hkk (fun b o _ h => he b _ h) (by rw [hn]; exact c) q)
        have st : Sat K (α.push a) (μ'.take μ.length ++ [MO.lst ds]) H' := by
          refine ⟨?_, fun b hb => s'.hid b (by rw [m.hid]; exact hb), fun i b x h1 h2 h3 => ?_, fun i j b x y h1 h2 h3 h4 g1 g2 => ?_, fun i b x h1 h2 h3 => ?_⟩
          · show (α.ad ++ [a]).length = _
            rw [List.length_append, List.length_append, htl, hn]
            rfl
          · obtain ⟨j, q1, q2⟩ := gA h1
            obtain ⟨j', q3, q4⟩ := gM h2
            have := idx q2 q4
            subst this
            have := s'.apart j b x q1 q3 h3
            rw [m.hid] at this
            exact this
          · obtain ⟨i1, q1, q2⟩ := gA h1
            obtain ⟨i2, q3, q4⟩ := gM h3
            have e1 := idx q2 q4
            subst e1
            obtain ⟨j1, q5, q6⟩ := gA h2
            obtain ⟨j2, q7, q8⟩ := gM h4
            have e2 := idx q6 q8
            subst e2
            have := s'.inj i1 j1 b x y q1 q5 q3 q7 g1 g2
            omega
          · obtain ⟨j, q1, q2⟩ := gA h1
            obtain ⟨j', q3, q4⟩ := gM h2
            have := idx q2 q4
            subst this
            obtain ⟨o, h4, h5⟩ := s'.obj j b x q1 q3 h3
            refine ⟨o, h4, back ?_ h5⟩
            rcases q2 with ⟨hi, rfl⟩ | ⟨_, rfl⟩
            · rcases hold j x hi q3 with z | z
              · obtain ⟨o2, _, h6⟩ := s.obj j b x (hkk j b (by omega) q1) z h3
                rw [← hn]
                exact mrep_closed h6
              · exact z
            · rw [ek] at q3
              cases q3
              exact hcl
        refine h (α.push a) H' st ⟨fun i b q => ?_, fun b o h => he b o (m.ext b o h), rfl⟩ _ (.own ?_)
        · show (α.ad ++ [a])[i]? = some b
          rw [List.getElem?_append_left (List.getElem?_eq_some_iff.mp q).1]
          exact q
        · show (α.ad ++ [a])[μ.length]? = some a
          rw [List.getElem?_append_right (by omega), hn, Nat.sub_self]
          rfl
      · exact h.elim
    · exact h.elim
  · exact trim_ok s s' m h v r
noncomputable def fnO (n : Nat) (fb : FS) : FF := fun ds μ => match fb (startE n ds) μ with
  | .ok (.rt d) μ' => trimO μ d μ'
  | .ok (.nx _) μ' => trim true μ .non μ'
  | _ => .bad
section
variable {P : Program} {w : World} {K : PySem.W.Frag} {mg : Str → Option Value} {base : Heap}
theorem fn_okO {x qual : Str} {st : Stmt} {f : Addr} {fd : FuncData} {N ps : List Str} {k : Nat} {fb : FS} (F : Fun K x qual st f fd) (S : FnScope N ps (defScope st)) (b : Binds K fd ps [])
    (body : ∀ (cdv : Value) (A : Around) (outer : List PySem.Env) (s : Shared) (H : Hp) (E : XK), Room k (A.deeper (envOfC qual (defScope st) s.heap.objs.size f cdv)) →
      DSs (cxOf CX0 P w K mg base N qual (defScope st) f cdv A outer s H E).nox E0 (defBody st) fb) : FnD P w K mg base CX0 (k + 1) f fd ps (fnO N.length fb) := by
  refine ⟨F.ok S (fun vs H Q E h => h.1) (fun cdv A outer s H vs Q E hr h => ?_), b, F.kp⟩
  obtain ⟨hl, ds, α, μ, sat, r, hm⟩ := h
  obtain ⟨t, h1, h2⟩ := (body cdv A outer s H E hr).ex
  refine ⟨t, h1, h2 (L2.start N vs) H α (startE N.length ds) μ _ sat (Loc.start r) ?_⟩
  unfold fnO at hm
  split at hm
  · rename_i d μ' e
    rw [e]
    intro α' H' s' m'
    exact trimO_ok sat s' m' hm
  · rename_i ρ' μ' e
    rw [e]
    intro α' H' s' m' σ l
    exact trim_ok sat s' m' hm _ .non
  · exact hm.elim
end
end Dt

/-! Dt11: sorted, of ints, of tuples of ints and texts. -/
namespace Dt
open PySem PySem.Spec PyProof.Rows L2
abbrev TKey := List (Int ⊕ List Nat)
abbrev tOrd : KeyOrd := PyProof.Rows.listOrd PyProof.Rows.itemOrd
def VItems (shape : Nat → Bool) : Nat → List V → TKey → Prop
  | _, [], l => l = []
  | i, .int n :: r, l => shape i = false ∧ ∃ l', l = Sum.inl n :: l' ∧ VItems shape (i + 1) r l'
  | i, .str x :: r, l => shape i = true ∧ ∃ l', l = Sum.inr x.cps.toList :: l' ∧ VItems shape (i + 1) r l'
  | _, _ :: _, _ => False
theorem vitems_val {shape : Nat → Bool} : ∀ {es : List V} {us : List Value} {i : Nat} {l : TKey}, VItems shape i es l → Vals es us → PyProof.Rows.tupItems shape i us = some l
  | [], _, i, l, h, .nil => by
    cases (show l = [] from h)
    rfl
  | .int n :: r, _ :: us, i, l, h, .cons r1 rt => by
    obtain ⟨h1, l', rfl, h2⟩ := h
    obtain ⟨t, rfl⟩ := r1
    have ih := vitems_val h2 rt
    show (if shape i = true then none else (PyProof.Rows.tupItems shape (i + 1) us).map (Sum.inl n :: ·)) = _
    rw [h1, if_neg Bool.false_ne_true, ih]
    rfl
  | .str x :: r, _ :: us, i, l, h, .cons r1 rt => by
    obtain ⟨h1, l', rfl, h2⟩ := h
    obtain ⟨t, rfl⟩ := r1
    have ih := vitems_val h2 rt
    show (if shape i = true then (PyProof.Rows.tupItems shape (i + 1) us).map (Sum.inr x.cps.toList :: ·) else none) = _
    rw [h1, if_pos rfl, ih]
    rfl
def rSortTup (K : PySem.W.Frag) : List V → Hp → VK → Prop := fun vs H Q => ∃ (a : Addr) (xs : List V) (shape : Nat → Bool) (ks : V → TKey), vs = [V.ref a] ∧ SqL K H a xs ∧ (∀ x ∈ xs, ∃ t es, x = V.ref t ∧ H t = some (.tup es) ∧ VItems shape 0 es (ks x) ∧ es ≠ []) ∧
  ∀ ys p, ys.Perm xs → ys.Pairwise (fun x y => tOrd.kle (ks x) (ks y)) → H p = none → Q (.ref p) (upd H p (.lst ys))
theorem tupsOf_ex {h : Heap} {shape : Nat → Bool} : ∀ {vs : List Value}, (∀ v ∈ vs, ∃ f, PyProof.Rows.TupOf h shape v f) → ∃ fs, PyProof.Rows.TupsOf h shape vs fs
  | [], _ => ⟨[], .nil⟩
  | v :: vs, H => by
    obtain ⟨f, hf⟩ := H v List.mem_cons_self
    obtain ⟨fs, hfs⟩ := tupsOf_ex (vs := vs) fun u hu => H u (List.mem_cons_of_mem _ hu)
    exact ⟨f :: fs, .cons hf hfs⟩
section
variable {X : Cx}
theorem cr_sortTup : CallR X (.builtin "sorted") (rSortTup X.K) := by
  intro pins s σ H vs us Q I r h
  obtain ⟨a, xs, shape, ks, rfl, hs, hx, q⟩ := h
  obtain ⟨its, rv, hl, hz⟩ := I.list hs
  rw [Vals.ref1 r]
  obtain ⟨e1, e2⟩ := refs_back rv fun x m => by
    obtain ⟨t, _, e, _⟩ := hx x m
    exact ⟨t, e⟩
  have info : ∀ v ∈ its, (∃ f, PyProof.Rows.TupOf s.heap shape v f) ∧ PyProof.Rows.G.tupKeyC s.heap shape v = some (ks (backV v)) := fun v hv => by
    obtain ⟨t, rfl⟩ := e2 v hv
    have hm : V.ref t ∈ xs := by rw [e1]; exact List.mem_map.mpr ⟨_, hv, rfl⟩
    obtain ⟨t', es, e, ht, hi, hne⟩ := hx _ hm
    cases e
    obtain ⟨_, its2, r2, o, ho, hc, n, hd⟩ := I.hok _ _ ht
    have hti := vitems_val hi r2
    refine ⟨?_, ?_⟩
    · cases r2 with
      | nil => exact absurd rfl hne
      | @cons x u xs' us' p1 p2 =>
        refine ⟨u, t, o, _, n, rfl, ho, hc, hd, rfl, fun hsh => ?_, fun hsh => ?_⟩
        · cases x with
          | int k => obtain ⟨tk, rfl⟩ := p1; exact ⟨_, _, rfl⟩
          | str x => exact absurd hi.1 (by rw [hsh]; decide)
          | _ => exact (show False from hi).elim
        · cases x with
          | str k => obtain ⟨tk, rfl⟩ := p1; exact ⟨_, _, rfl⟩
          | int x => exact absurd hi.1 (by rw [hsh]; decide)
          | _ => exact (show False from hi).elim
    · unfold PyProof.Rows.G.tupKeyC
      rw [if_pos (by simp only [PyProof.Rows.G.isTupObj, ho, hc]; rfl)]
      simp only [PyProof.Rows.tupKey, ho, hd]
      exact hti
  obtain ⟨fs, hfs⟩ := tupsOf_ex fun v hv => (info v hv).1
  have hzl : its.length ≤ sizeLine := by rw [← rv.length]; exact hz
  refine PyProof.Rows.G.sorted_tups hl.isList hfs (fun v hv => ⟨_, (info v hv).2⟩) hzl fun st' hp hso _ => ?_
  obtain ⟨ep, he'⟩ := PyProof.Rows.sortedAll_at s.heap its ((arrOf st').map (·.2))
  have hpl : (arrOf st').toList.Perm (its.zip its) := by rw [← pairsOf_toList]; exact Array.perm_iff_toList_perm.mp hp
  have hmem : ∀ p, p ∈ (arrOf st').toList → p.1 = p.2 ∧ p.1 ∈ its := fun p hp' => mem_zip_self (hpl.mem_iff.mp hp')
  have hout : ((arrOf st').map (·.2)).toList.Perm its := by
    rw [Array.toList_map]
    have := hpl.map (·.2)
    rw [List.map_snd_zip (Nat.le_refl _)] at this
    exact this
  have h3 : ∀ u ∈ ((arrOf st').map (·.2)).toList, ∃ a, u = Value.ref a := fun u hu => e2 u (hout.mem_iff.mp hu)
  refine ⟨.ref _, upd H (s.heap.objs.size + 1) (.lst (((arrOf st').map (·.2)).toList.map backV)), I.laid (t' := s.toks) (fun _ _ => PyProof.Rows.sortedAll_old) (Nat.le_succ _) ⟨?_, _, ep, vals_back h3, he'⟩, rfl, q _ _ ?_ ?_ (I.hok.fresh (Nat.le_succ _))⟩
  · rw [List.length_map, hout.length_eq]
    exact hzl
  · rw [e1]
    exact hout.map backV
  · rw [List.pairwise_map, Array.toList_map, List.pairwise_map, List.pairwise_iff_getElem]
    intro i j hi hj hij
    have hi' : i < (arrOf st').size := by simpa using hi
    have hj' : j < (arrOf st').size := by simpa using hj
    have h1 := hso i j (Nat.le_of_lt hij) (by rw [← hp.size_eq]; exact hj')
    have kk : ∀ (i : Nat) (hi' : i < (arrOf st').size), KK (PyProof.Rows.G.tupKindC s.heap shape) (arrOf st') i = ks (backV ((arrOf st')[i]).2) := fun i hi' => by
      obtain ⟨m1, m2⟩ := hmem (arrOf st')[i] (by simp)
      unfold KK
      rw [Array.getElem?_eq_getElem hi']
      simp only
      show (PyProof.Rows.G.tupKeyC s.heap shape _).getD [] = _
      rw [(info _ m2).2, ← m1]
      rfl
    rw [kk i hi', kk j hj'] at h1
    simp only [Array.getElem_toList]
    exact h1
end
/-! ### by data -/
def itemK : D → Option (Int ⊕ List Nat)
  | .int i => some (.inl i)
  | .str s => some (.inr s)
  | _ => none
def itemsK : List D → Option TKey
  | [] => some []
  | d :: ds => match itemK d, itemsK ds with
    | some x, some l => some (x :: l)
    | _, _ => none
def itemD : Int ⊕ List Nat → D
  | .inl i => .int i
  | .inr s => .str s
def kindOfI : Int ⊕ List Nat → Bool
  | .inl _ => false
  | .inr _ => true
/-- the keys of a list of tuples -/
def tupsK : List D → Option (List TKey)
  | [] => some []
  | .tup es :: ds => match itemsK es, tupsK ds with
    | some k, some ks => some (k :: ks)
    | _, _ => none
  | _ :: _ => none
def shapeOk (k0 : TKey) (k : TKey) : Bool := decide (k.map kindOfI = k0.map kindOfI) && !k.isEmpty
def tLe (a b : TKey) : Bool := !tOrd.blt b a
def tupOf (k : TKey) : D := .tup (k.map itemD)
def sortD (b : Bool) : FF := fun ds μ => match ds with
  | [d] => match getL d μ with
    | some es => match toInts es with
      | some ns => mkL b ((ns.mergeSort (fun i j => decide (i ≤ j))).map D.int) μ
      | none => match tupsK es with
        | some (k0 :: ks) => if (k0 :: ks).all (shapeOk k0) then mkL b (((k0 :: ks).mergeSort tLe).map tupOf) μ else .bad
        | _ => .bad
    | none => .bad
  | _ => .bad
theorem itemsK_of : ∀ {es : List D} {k : TKey}, itemsK es = some k → es = k.map itemD
  | [], k, h => by cases h; rfl
  | d :: ds, k, h => by
    unfold itemsK at h
    split at h
    · rename_i x l h1 h2
      cases h
      rw [List.map_cons, ← itemsK_of h2]
      congr 1
      cases d <;> first | (cases h1; rfl) | cases h1
    · cases h
theorem tupsK_of : ∀ {es : List D} {ks : List TKey}, tupsK es = some ks → es = ks.map tupOf
  | [], k, h => by cases h; rfl
  | d :: ds, ks, h => by
    cases d with
    | tup es =>
      unfold tupsK at h
      split at h
      · rename_i x l h1 h2
        cases h
        rw [List.map_cons, ← tupsK_of h2]
        unfold tupOf
        rw [← itemsK_of h1]
      · cases h
    | _ => cases h
section
variable {K : PySem.W.Frag} {α : Led} {S : Stb}
theorem den_items {shape : Nat → Bool} : ∀ {k : TKey} {i : Nat} {vs : List V}, (∀ j, j < k.length → (k.map kindOfI)[j]? = some (shape (i + j))) → DenL K α S (k.map itemD) vs → VItems shape i vs k
  | [], i, vs, h, r => by rw [r.nil_inv]; rfl
  | x :: k, i, vs, h, r => by
    obtain ⟨v, t, rfl, h1, h2⟩ := r.cons_inv
    have h0 := h 0 (by simp)
    have ih := den_items (i := i + 1) (fun j hj => by
      have := h (j + 1) (by simpa using hj)
      rw [List.map_cons, List.getElem?_cons_succ] at this
      rw [this]
      congr 2
      omega) h2
    cases x with
    | inl n =>
      obtain rfl := h1.int_inv
      exact ⟨(Option.some.inj h0).symm, k, rfl, ih⟩
    | inr s =>
      obtain ⟨rfl, _⟩ := h1.str_inv
      exact ⟨(Option.some.inj h0).symm, k, rfl, ih⟩
/-- what data a sorted list of values denotes -/
theorem den_perm {ks : List TKey} {xs : List V} (key : V → TKey) (r : DenL K α S (ks.map tupOf) xs) (hk : ∀ x ∈ xs, ∀ k, Den K α S (tupOf k) x → key x = k) : ks = xs.map key := by
  induction ks generalizing xs with
  | nil => rw [r.nil_inv]; rfl
  | cons k ks ih =>
    obtain ⟨v, t, rfl, h1, h2⟩ := r.cons_inv
    rw [List.map_cons, ← ih h2 (fun x hx => hk x (List.mem_cons_of_mem _ hx)), hk v List.mem_cons_self k h1]
theorem den_each {ks : List TKey} {xs : List V} (r : DenL K α S (ks.map tupOf) xs) : ∀ x ∈ xs, ∃ k ∈ ks, Den K α S (tupOf k) x := by
  induction ks generalizing xs with
  | nil => rw [r.nil_inv]; intro x hx; cases hx
  | cons k ks ih =>
    obtain ⟨v, t, rfl, h1, h2⟩ := r.cons_inv
    intro x hx
    rcases List.mem_cons.mp hx with rfl | hx
    · exact ⟨k, List.mem_cons_self, h1⟩
    · obtain ⟨k', h3, h4⟩ := ih h2 x hx
      exact ⟨k', List.mem_cons_of_mem _ h3, h4⟩
theorem den_all {f : V → D} : ∀ {xs : List V}, (∀ x ∈ xs, Den K α S (f x) x) → DenL K α S (xs.map f) xs
  | [], _ => .nil
  | x :: xs, h => .cons (h x List.mem_cons_self) (den_all fun y hy => h y (List.mem_cons_of_mem _ hy))
end
theorem tLe_trans (a b c : TKey) (h1 : tLe a b = true) (h2 : tLe b c = true) : tLe a c = true := by
  unfold tLe at *
  rw [Bool.not_eq_true'] at *
  exact KeyOrd.kle_trans (O := tOrd) h1 h2
theorem tLe_total (a b : TKey) : (tLe a b || tLe b a) = true := by
  unfold tLe
  cases h : tOrd.blt b a with
  | false => rfl
  | true =>
    have : tOrd.blt a b = false := KeyOrd.klt_asymm (O := tOrd) h
    rw [this]
    rfl
theorem tLe_anti {a b : TKey} (h1 : tLe a b = true) (h2 : tLe b a = true) : a = b := by
  unfold tLe at *
  rw [Bool.not_eq_true'] at *
  exact KeyOrd.kle_antisymm (O := tOrd) h1 h2
theorem sorted_uniq {A : Type} {le : A → A → Bool} (anti : ∀ a b, le a b = true → le b a = true → a = b) (tot : ∀ a b, (le a b || le b a) = true) : ∀ {l m : List A}, l.Perm m → l.Pairwise (fun a b => le a b = true) → m.Pairwise (fun a b => le a b = true) → l = m
  | [], m, p, _, _ => (List.Perm.eq_nil p.symm).symm
  | x :: l, [], p, _, _ => absurd p.length_eq (by simp)
  | x :: l, y :: m, p, hl, hm => by
    have hl' := List.pairwise_cons.mp hl
    have hm' := List.pairwise_cons.mp hm
    have refl : ∀ a, le a a = true := fun a => by have := tot a a; rwa [Bool.or_self] at this
    have hxy : x = y := by
      refine anti x y ?_ ?_
      · rcases List.mem_cons.mp (p.mem_iff.mpr (List.mem_cons_self (a := y) (l := m))) with e | e
        · rw [e]; exact refl x
        · exact hl'.1 y e
      · rcases List.mem_cons.mp (p.mem_iff.mp (List.mem_cons_self (a := x) (l := l))) with e | e
        · rw [← e]; exact refl x
        · exact hm'.1 x e
    subst hxy
    rw [sorted_uniq anti tot p.cons_inv hl'.2 hm'.2]
section
variable {X : Cx} {E : XK}
theorem dc_sorted (b : Bool) : DC X E (.builtin "sorted") (sortD b) := by
  refine ⟨_, CallR.or cr_sortedI cr_sortTup, fun xs H α ds μ Q s r h => ?_⟩
  unfold sortD at h
  split at h
  · obtain ⟨v, rfl, r1⟩ := r.one_inv
    split at h
    · rename_i e0
      obtain ⟨a, xs, rfl, h1, h2⟩ := getL_at e0 s r1
      split at h
      · rename_i ns e1
        rw [toInts_of e1] at h2
        rw [h2.ints_inv] at h1
        refine .inl ⟨a, ns, rfl, SqL.of h1, fun ns' p hp hs hn => ?_⟩
        have e : ns' = ns.mergeSort (fun i j => decide (i ≤ j)) := by
          refine sorted_uniq (le := fun i j => decide (i ≤ j)) (fun a b p q => ?_) (fun a b => ?_) (hp.trans (List.mergeSort_perm ns _).symm) (hs.imp fun q => decide_eq_true q) (List.pairwise_mergeSort (fun a b c p q => ?_) (fun a b => ?_) ns)
          · have := of_decide_eq_true p; have := of_decide_eq_true q; omega
          · rw [Bool.or_eq_true, decide_eq_true_eq, decide_eq_true_eq]; omega
          · have := of_decide_eq_true p; have := of_decide_eq_true q; exact decide_eq_true (by omega)
          · rw [Bool.or_eq_true, decide_eq_true_eq, decide_eq_true_eq]; omega
        rw [e]
        exact mkL_ok s DenL.ints h p hn
      · split at h
        · rename_i k0 ks e1
          split at h
          · rename_i hsh
            rw [tupsK_of e1] at h2
            have hshape : ∀ k ∈ (k0 :: ks), k.map kindOfI = k0.map kindOfI ∧ k ≠ [] := fun k hk => by
              have := List.all_eq_true.mp hsh k hk
              unfold shapeOk at this
              rw [Bool.and_eq_true, decide_eq_true_eq] at this
              refine ⟨this.1, fun z => ?_⟩
              rw [z] at this
              exact absurd this.2 (by decide)
            obtain ⟨key, hkey⟩ : ∃ key : V → TKey, ∀ x k, Den X.K α (stb α μ H) (tupOf k) x → key x = k := by
              have uni : ∀ x k k', Den X.K α (stb α μ H) (tupOf k) x → Den X.K α (stb α μ H) (tupOf k') x → k = k' := fun x k k' d1 d2 => by
                obtain ⟨t, es, rfl, q1, q2⟩ := d1.tup_inv
                obtain ⟨t', es', e, q3, q4⟩ := d2.tup_inv
                cases e
                rw [q1] at q3
                cases q3
                have : ∀ {k k' : TKey} {es : List V}, DenL X.K α (stb α μ H) (k.map itemD) es → DenL X.K α (stb α μ H) (k'.map itemD) es → k = k' := by
                  intro k
                  induction k with
                  | nil =>
                    intro k' es a b
                    rw [a.nil_inv] at b
                    cases k' with
                    | nil => rfl
                    | cons y k' => obtain ⟨_, _, e, _⟩ := b.cons_inv; cases e
                  | cons y k ih =>
                    intro k' es a b
                    obtain ⟨v, t, rfl, a1, a2⟩ := a.cons_inv
                    cases k' with
                    | nil => have := b.nil_inv; cases this
                    | cons z k' =>
                      obtain ⟨v', t', e, b1, b2⟩ := b.cons_inv
                      cases e
                      rw [ih a2 b2]
                      congr 1
                      cases y with
                      | inl n =>
                        obtain rfl := a1.int_inv
                        cases z with
                        | inl m => have := b1.int_inv; cases this; rfl
                        | inr m => have := b1.str_inv.1; cases this
                      | inr n =>
                        obtain ⟨rfl, _⟩ := a1.str_inv
                        cases z with
                        | inl m => have := b1.int_inv; cases this
                        | inr m => have := b1.str_inv.1; rw [mkS_inj (V.str.inj this)]
                exact this q2 q4
              refine ⟨fun x => open Classical in if hx : ∃ k, Den X.K α (stb α μ H) (tupOf k) x then Classical.choose hx else [], fun x k d => ?_⟩
              have hx : ∃ k, Den X.K α (stb α μ H) (tupOf k) x := ⟨k, d⟩
              simp only [dif_pos hx]
              exact uni x _ _ (Classical.choose_spec hx) d
            have hks := den_perm key h2 fun x _ k d => hkey x k d
            refine .inr ⟨a, xs, fun i => ((k0.map kindOfI)[i]?).getD false, key, rfl, SqL.of h1, fun x hx => ?_, fun ys p hp hs hn => ?_⟩
            · obtain ⟨k, hk, d⟩ := den_each h2 x hx
              obtain ⟨s1, s2⟩ := hshape k hk
              rw [hkey x k d]
              obtain ⟨t, es, rfl, q1, q2⟩ := d.tup_inv
              refine ⟨t, es, rfl, (stb_some q1).1, den_items (fun j hj => ?_) q2, fun z => ?_⟩
              · rw [s1, Nat.zero_add]
                have : j < (k0.map kindOfI).length := by rw [← s1, List.length_map]; exact hj
                rw [List.getElem?_eq_getElem this]
                rfl
              · rw [z] at q2
                have := q2.length
                rw [List.length_map] at this
                exact s2 (List.length_eq_zero_iff.mp this)
            · have e : ys.map key = (k0 :: ks).mergeSort tLe := by
                refine sorted_uniq (le := tLe) (fun a b => tLe_anti) tLe_total ?_ ?_ (List.pairwise_mergeSort tLe_trans tLe_total _)
                · refine List.Perm.trans ?_ (List.mergeSort_perm _ _).symm
                  rw [hks]
                  exact hp.map key
                · rw [List.pairwise_map]
                  refine hs.imp fun {x y} q => ?_
                  unfold tLe
                  rw [show tOrd.blt (key y) (key x) = false from q]
                  rfl
              rw [← e, List.map_map] at h
              refine mkL_ok s (den_all fun y hy => ?_) h p hn
              obtain ⟨k, _, d⟩ := den_each h2 y (hp.mem_iff.mp hy)
              show Den X.K α (stb α μ H) (tupOf (key y)) y
              rw [hkey y k d]
              exact d
          · exact h.elim
        · exact h.elim
    · exact h.elim
  · exact h.elim
end
end Dt

/-! Dt12: a dict with one pair. -/
namespace Dt
open PySem PySem.Spec PyProof.Rows L2
def isNilK : Option MO → Bool
  | some (.dK []) => true
  | _ => false
theorem isNilK_of : ∀ {o : Option MO}, isNilK o = true → o = some (.dK [])
  | some (.dK []), _ => rfl
  | some (.dK (_ :: _)), h => by cases h
  | some (.lst _), h => by cases h
  | some (.dT _), h => by cases h
  | some (.ins _ _), h => by cases h
  | some (.lck _), h => by cases h
  | some .gone, h => by cases h
  | none, h => by cases h
def dict1E (fk fv : FE) : FE := fun ρ μ => (fk ρ (μ ++ [.dK []])).bind fun y μ1 => (fv ρ μ1).bind fun d μ2 => if isNilK μ2[μ.length]? then match toKey y with
  | some q => .ok (.own μ.length) (μ2.set μ.length (.dK [(q, d)]))
  | none => .bad else .bad
section
variable {X : Cx} {E : XK}
theorem de_dict1 {k v : Expr} {pos : Pos} {fk fv : FE} (hk : DE X E k fk) (hv : DE X E v fv) : DE X E (.Dict [some k] [v] pos) (dict1E fk fv) := by
  obtain ⟨tk, k1, k2⟩ := hk.ex
  obtain ⟨tv, v1, v2⟩ := hv.ex
  refine ⟨_, pe_disp (pps_cons k1 v1 pps_nil) rfl rfl (by simp) (show 1 ≤ 15 by decide), fun σ H α ρ μ Q s l hm p hp => ?_⟩
  obtain ⟨s0, m0, h0⟩ := s.alloc hp (m := .dK []) (o := .dK []) ⟨[], rfl, rfl, by simp⟩
  refine k2 σ _ _ ρ _ _ s0 (l.mono m0) ((Meets.rebase m0 hm).bind.mono fun y μ1 α1 H1 _ s1 m1 q1 w1 r1 => ?_)
  refine v2 σ H1 α1 ρ μ1 _ s1 (l.mono (m0.trans m1)) (q1.bind.mono fun d μ2 α2 H2 _ s2 m2 q2 w2 r2 => ?_)
  have ha2 := m2.pre _ _ (m1.pre _ _ h0)
  split at q2
  · rename_i e0
    have e1 := isNilK_of e0
    split at q2
    · rename_i q e2
      obtain ⟨o, h4, ys, rfl, h5⟩ := s2.obj _ _ _ ha2 e1 rfl
      cases (show ys = [] from h5.1)
      refine ⟨h4, [(keyS q, w2)], ?_, (show 1 ≤ 15 by decide), ?_⟩
      · rw [toKey_at e2 r1]
        rfl
      · have em : mergeK [] [(keyS q, w2)] = [(keyS q, w2)] := rfl
        rw [em]
        obtain ⟨s4, m4⟩ := s2.write (m' := .dK [(q, d)]) (o := .dK [(keyS q, w2)]) ha2 e1 rfl rfl ⟨_, rfl, ⟨w2, [], rfl, r2, rfl⟩, fun z hz => by
          rw [List.mem_singleton.mp hz]
          exact toKey_ok e2 r1⟩
        exact q2 _ _ s4 m4 _ (.own (m4.pre _ _ ha2))
    · exact q2.elim
  · exact q2.elim
end
end Dt

/-! Dt13: max(xs, default=None); list of a dict; texts and lists said again. -/
namespace Dt
open PySem PySem.Spec PyProof.Rows L2
theorem reads_ints {h : Heap} : ∀ {vs : List Value} {ns : List Int}, IntsAre vs ns → PySem.W.HoldAll h vs ns
  | _, _, .nil => ⟨[], .nil⟩
  | _, _, .cons n t r => by
    obtain ⟨as, q⟩ := reads_ints (h := h) r
    exact ⟨_, .cons (.int n t) q⟩
section
variable {X : Cx}
def rMaxDef (K : PySem.W.Frag) : List V → List V → Hp → VK → Prop := fun vs zs H Q => ∃ (a : Addr) (ns : List Int), vs = [V.ref a] ∧ zs = [V.non] ∧ SqL K H a (ns.map V.int) ∧ (ns = [] → Q .non H) ∧ ∀ y ys, ns = y :: ys → Q (.int (PySem.W.maxOf y ys)) H
theorem cr_maxDef (hc : X.calm = true) (hu : X.A.units + 64 < cLine) : CallRK X (.builtin "max") [Str.ofString "default"] (rMaxDef X.K) := by
  intro pins s σ H vs zs us ws Q I r rz h
  obtain ⟨a, ns, rfl, rfl, hs, q0, q1⟩ := h
  obtain ⟨its, rv, hl, _⟩ := I.list hs
  obtain rfl := Vals.ref1 r
  obtain ⟨w1, rfl, e1⟩ := vals1 rz
  obtain rfl : w1 = Value.none := e1
  refine PySem.W.max_list_datum_default (α := Int) (I.ok.hd hc) hl.isList (reads_ints rv.ints) (by show X.A.units + 1 + 0 < cLine; omega) (fun e h' tk k => ?_) (fun y ys i v h' tk e hi hv k => ?_)
  · exact ⟨.non, H, I.kept k, rfl, q0 e⟩
  · obtain ⟨as, hr⟩ := hv
    cases hr with
    | int _ t => exact ⟨.int _, H, I.kept k, ⟨t, rfl⟩, q1 y ys e⟩
end
def maxDefD (d : D) (μ : Mu) : Out D := match getL d μ with
  | some es => match toInts es with
    | some [] => .ok .non μ
    | some (y :: ys) => .ok (.int (PySem.W.maxOf y ys)) μ
    | none => .bad
  | none => .bad
def maxDefE (fa : FE) : FE := fun ρ μ => (fa ρ μ).bind maxDefD
section
variable {X : Cx} {E : XK}
theorem de_maxDef {x : Str} {p pos kpos np : Pos} {e : Expr} {j : Nat} {fe : FE} (hu : X.A.units + 64 < cLine) (hc : X.calm = true) (hm : X.mg x = none) (hv : bootBuiltins x = some (.builtin "max")) (he : DE X E e fe) (hg : Gl X x := by rfl)
    (hn : x ≠ "__name__" := by decide) (hdb : (x == ("__debug__" : Str)) = false := by decide)
    (h1 : backTo pos (starEach [e] X.env) = (false, eval e X.env) :: backTo pos (starEach [] X.env) := by rfl) (h2 : (backTo pos (starEach [e] X.env)).any (·.1) = false := by rfl) (hs : starEach [e] X.env = (false, eval e X.env) :: starEach [] X.env := by rfl) :
    DE X E (.Call (.Name x p) [e] [⟨some "default", .Constant .none j np, kpos⟩] pos) (maxDefE fe) := by
  obtain ⟨t, e1, e2⟩ := he.ex
  refine ⟨_, pe_callBK (cr_maxDef hc hu) hg hm hv (pa_cons e1 pa_nil hs) (pk_cons pe_non pk_nil) hn hdb h1 h2, fun σ H α ρ μ Q s l hmt => ?_⟩
  refine e2 σ H α ρ μ _ s l (hmt.bind.mono fun d μ1 α1 H1 _ s1 m1 q v r => ?_)
  unfold maxDefD at q
  split at q
  · rename_i es e0
    obtain ⟨a, xs, rfl, h3, h4⟩ := getL_at e0 s1 r
    split at q
    · rename_i e4
      rw [toInts_of e4] at h4
      rw [h4.ints_inv] at h3
      exact ⟨a, [], rfl, rfl, SqL.of h3, fun _ => same_ok s1 .non q, fun y ys z => (by cases z)⟩
    · rename_i y ys e4
      rw [toInts_of e4] at h4
      rw [h4.ints_inv] at h3
      exact ⟨a, y :: ys, rfl, rfl, SqL.of h3, fun z => (by cases z), fun y' ys' z => by cases z; exact same_ok s1 .int q⟩
    · exact q.elim
  · exact q.elim
/-- list of a dict: its keys -/
def keysD (b : Bool) : FF := fun ds μ => match ds with
  | [.own k] => match dkOf μ[k]? with
    | some kvs => mkL b (kvs.map fun p => keyD p.1) μ
    | none => .bad
  | _ => .bad
theorem keys_den {K : PySem.W.Frag} {α : Led} {S : Stb} : ∀ {kvs : List (DKey × D)} {ys : List (Key × V)}, KD K α S keyS kvs ys → (∀ p ∈ kvs, KeyOk p.1) → DenL K α S (kvs.map fun p => keyD p.1) (ys.map fun kv => kV kv.1)
  | [], ys, h, _ => by cases (show ys = [] from h); exact .nil
  | p :: r, ys, h, ko => by
    obtain ⟨v, t, rfl, h1, h2⟩ := h
    exact .cons (key_den p.1 (ko p List.mem_cons_self)) (keys_den h2 fun q hq => ko q (List.mem_cons_of_mem _ hq))
theorem dc_keys (b : Bool) (hc : X.calm = true) : DC X E (.type "list") (keysD b) := by
  refine ⟨_, call_list_dK hc, fun xs H α ds μ Q s r h => ?_⟩
  unfold keysD at h
  split at h
  · obtain ⟨v, rfl, r1⟩ := r.one_inv
    split at h
    · rename_i kvs e0
      obtain ⟨a, o, rfl, _, h1, ys, rfl, h2⟩ := own_at s r1 (dkOf_of e0) rfl
      exact ⟨a, ys, rfl, h1, mkL_ok s (keys_den h2.1 h2.2) h⟩
    · exact h.elim
  · exact h.elim
end
end Dt

/-! Dt14: a text, a list so many times. -/
namespace Dt
open PySem PySem.Spec PyProof.Rows L2
def repL {β : Type} (xs : List β) (n : Int) : List β := (List.replicate n.toNat xs).flatten
theorem repL_len {β : Type} (xs : List β) (n : Int) : (repL xs n).length = n.toNat * xs.length := by
  unfold repL
  generalize n.toNat = k
  induction k with
  | zero => simp
  | succ k ih => rw [List.replicate_succ, List.flatten_cons, List.length_append, ih, Nat.succ_mul]; omega
theorem repL_mem {β : Type} {xs : List β} {n : Int} {x : β} (h : x ∈ repL xs n) : x ∈ xs := by
  unfold repL at h
  obtain ⟨l, h1, h2⟩ := List.mem_flatten.mp h
  rw [(List.mem_replicate.mp h1).2] at h2
  exact h2
theorem fold_rep (s : List Nat) : ∀ (k : Nat) (acc : List Nat), (List.replicate k s.toArray).foldl (· ++ ·) acc.toArray = (acc ++ (List.replicate k s).flatten).toArray
  | 0, acc => by simp
  | k + 1, acc => by
    rw [List.replicate_succ, List.foldl_cons, List.replicate_succ, List.flatten_cons]
    have := fold_rep s k (acc ++ s)
    rw [List.append_assoc] at this
    rw [← this]
    congr 1
    simp
theorem mul_mkS (s : List Nat) (n : Int) : Txt.mul (mkS s) n = mkS (repL s n) := by
  unfold Txt.mul repL
  by_cases h1 : n < 1
  · rw [if_pos h1, show n.toNat = 0 by omega]
    rfl
  · rw [if_neg h1]
    by_cases h2 : (n == 1 || (mkS s).length == 0) = true
    · rw [if_pos h2]
      rw [Bool.or_eq_true, beq_iff_eq, beq_iff_eq, mkS_len] at h2
      rcases h2 with rfl | h2
      · simp
      · have : s = [] := List.length_eq_zero_iff.mp h2
        subst this
        simp
    · rw [if_neg h2]
      have := fold_rep s n.toNat []
      rw [List.nil_append] at this
      show (⟨_⟩ : Str) = ⟨_⟩
      congr 1
theorem mulOk_small {s : List Nat} {n : Int} (hs : s.length ≤ 1000) (h0 : -1000 ≤ n) (h1 : n ≤ 1000) : MulOk (mkS s) n := by
  refine ⟨?_, fun h _ => ?_, fun h _ => ?_⟩
  · rw [decide_eq_false (by omega), decide_eq_false (by omega)]
    rfl
  · rw [mkS_len]
    have hm : (s.length : Int) * n ≤ 1000 * 1000 := Int.mul_le_mul (by omega) h1 (by omega) (by omega)
    have : (s.length : Int) ≤ (2 ^ 63 - 1) / n := (Int.le_ediv_iff_mul_le (by omega)).mpr (by omega)
    omega
  · rw [mkS_len]
    have : s.length * n.toNat ≤ 1000 * 1000 := Nat.mul_le_mul hs (by omega)
    exact decide_eq_false (by rw [sizeLine_eq]; omega)
section
variable {X : Cx} {E : XK}
theorem op_mulStr : OpR X (binaryOp .Mult) (fun x y H Q => ∃ (a : Str) (n : Int), x = .str a ∧ y = .int n ∧ MulOk a n ∧ Q (.str (Txt.mul a n)) H) := by
  intro pins s σ H x y v u Q I rx ry h
  obtain ⟨a, n, rfl, rfl, hok, q⟩ := h
  obtain ⟨t, rfl⟩ := rx
  obtain ⟨t', rfl⟩ := ry
  exact SB.mul hok fun t2 k => ⟨.str _, H, I.tok _, ⟨_, rfl⟩, q⟩
def mulSD : D → D → Mu → Out D
  | .str s, .int n, μ => if s.length ≤ 1000 ∧ -1000 ≤ n ∧ n ≤ 1000 then .ok (.str (repL s n)) μ else .bad
  | x, .int n, μ => match getL x μ with
    | some ds => if ds.length ≤ 1000 ∧ -1000 ≤ n ∧ n ≤ 1000 then mkL false (repL ds n) μ else .bad
    | none => .bad
  | _, _, _ => .bad
theorem den_rep {K : PySem.W.Frag} {α : Led} {S : Stb} {ds : List D} {xs : List V} (r : DenL K α S ds xs) (n : Int) : DenL K α S (repL ds n) (List.replicate n.toNat xs).flatten := by
  unfold repL
  generalize n.toNat = k
  induction k with
  | zero => exact .nil
  | succ k ih => rw [List.replicate_succ, List.replicate_succ, List.flatten_cons, List.flatten_cons]; exact r.append ih
theorem d2_mulS : D2 X E (binaryOp .Mult) mulSD := by
  refine ⟨_, OpR.or op_mulStr op_rep, fun x y H α dx dy μ Q s rx ry h => ?_⟩
  unfold mulSD at h
  split at h
  · obtain ⟨rfl, o⟩ := rx.str_inv
    obtain rfl := ry.int_inv
    split at h
    · rename_i g
      refine .inl ⟨_, _, rfl, rfl, mulOk_small g.1 g.2.1 g.2.2, ?_⟩
      rw [mul_mkS]
      refine same_ok s (.str ⟨?_, fun c hc => o.2 c (repL_mem hc)⟩) h
      rw [repL_len, sizeLine_eq]
      have : (by assumption : Int).toNat * _ ≤ 1000 * 1000 := Nat.mul_le_mul (by omega) g.1
      omega
    · exact h.elim
  · obtain rfl := ry.int_inv
    split at h
    · rename_i e0
      obtain ⟨a, xs, rfl, h1, h2⟩ := getL_at e0 s rx
      split at h
      · rename_i g
        refine .inr ⟨a, _, xs, rfl, rfl, h1, by omega, by omega, ?_, mkL_ok s (den_rep h2 _) h⟩
        rw [← h2.length, sizeLine_eq]
        refine Nat.le_trans (Nat.mul_le_mul g.1 (show _ ≤ 1000 by omega)) (by decide)
      · exact h.elim
    · exact h.elim
  · exact h.elim
end
end Dt

/-! Dt15: what sorted(set(list(text))), len(set(list(text))), list(text), text[::-1], remove tell (their rules are still to be shown). -/
namespace Dt
open PySem PySem.Spec PyProof.Rows L2
def oneD (c : Nat) : D := .str [c]
def sortSetD : D → Mu → Out D
  | .str s, μ => if s.length ≤ 1000 then .ok (.lst ((s.eraseDups.mergeSort fun a b => decide (a ≤ b)).map oneD)) μ else .bad
  | _, _ => .bad
def lenSetD : D → Mu → Out D
  | .str s, μ => if s.length ≤ 1000 then .ok (.int (s.eraseDups.length : Nat)) μ else .bad
  | _, _ => .bad
def charsD (b : Bool) : D → Mu → Out D
  | .str s, μ => if s.length ≤ 1000 then mkL b (s.map oneD) μ else .bad
  | _, _ => .bad
def revD : D → Mu → Out D
  | .str s, μ => .ok (.str s.reverse) μ
  | _, _ => .bad
def sameS (t : List Nat) : D → Bool
  | .str s => s == t
  | _ => false
def removeD : D → FF := fun x ds μ => match x, ds with
  | .own k, [.str t] => match moL μ[k]? with
    | some es => match toStrs es with
      | some ss => if t ∈ ss then .ok .non (μ.set k (.lst ((ss.erase t).map D.str))) else .bad
      | none => .bad
    | none => .bad
  | _, _ => .bad
end Dt

/-! Dt15b: list(text), by data. -/
namespace Dt
open PySem PySem.Spec PyProof.Rows L2
theorem vals_at : ∀ {xs : List V} {us : List Value}, xs.length = us.length → (∀ (i : Nat) (x : V) (u : Value), xs[i]? = some x → us[i]? = some u → RelV x u) → Vals xs us
  | [], [], _, _ => .nil
  | [], _ :: _, h, _ => by cases h
  | _ :: _, [], h, _ => by cases h
  | x :: xs, u :: us, h, r => .cons (r 0 x u rfl rfl) (vals_at (by simpa using h) fun i a b p q => r (i + 1) a b p q)
section
variable {X : Cx} {E : XK}
theorem cr_listText (hc : X.calm = true) : CallR X (.type "list") (fun xs H Q => ∃ a : Str, xs = [.str a] ∧ a.length ≤ sizeLine ∧ ∀ p, H p = none → Q (.ref p) (upd H p (.lst (a.cps.toList.map fun c => V.str (mkS [c]))))) := by
  intro pins s σ H xs us Q I r h
  obtain ⟨a, rfl, hz, q⟩ := h
  obtain ⟨u, rfl, ru⟩ := vals1 r
  obtain ⟨t, rfl⟩ := ru
  refine PySem.call_list_str (I.ok.hd hc) a t (fun h' tk acc' c' hk hS' hacc => ?_) hz
  refine ⟨.ref _, upd H s.heap.objs.size (.lst (a.cps.toList.map fun c => V.str (mkS [c]))), I.laid (t' := tk) hk (Nat.le_refl _) ⟨?_, acc'.toList, c', ?_, hS'⟩, rfl, q _ (I.hok.fresh (Nat.le_refl _))⟩
  · rw [List.length_map]
    exact hz
  · refine vals_at ?_ fun i x u p q => ?_
    · rw [List.length_map, Array.length_toList, Array.length_toList]
      exact hacc.1.symm
    · rw [Array.getElem?_toList] at q
      obtain ⟨c, tk', h1, rfl⟩ := hacc.2 i u q
      rw [List.getElem?_map, Array.getElem?_toList, h1] at p
      cases p
      exact ⟨tk', rfl⟩
def charsF (b : Bool) : FF := fun ds μ => match ds with
  | [.str s] => if s.length ≤ 1000 then mkL b (s.map oneD) μ else .bad
  | _ => .bad
theorem dc_chars (b : Bool) (hc : X.calm = true) : DC X E (.type "list") (charsF b) := by
  refine ⟨_, cr_listText hc, fun xs H α ds μ Q s r h => ?_⟩
  unfold charsF at h
  split at h
  · obtain ⟨v, rfl, r1⟩ := r.one_inv
    obtain ⟨rfl, o⟩ := r1.str_inv
    split at h
    · refine ⟨_, rfl, o.1, mkL_ok s ?_ h⟩
      rw [mkS_cps]
      rename_i t _
      have key : ∀ l : List Nat, (∀ c ∈ l, c < 1114112) → DenL X.K α (stb α μ H) (l.map oneD) (l.map fun c => V.str (mkS [c])) := by
        intro l
        induction l with
        | nil => intro _; exact .nil
        | cons c l ih => intro hl; exact .cons (.str (.one (hl c List.mem_cons_self))) (ih fun d hd => hl d (List.mem_cons_of_mem _ hd))
      exact key _ o.2
    · exact h.elim
  · exact h.elim
end
end Dt

/-! Dt15c: text[::-1], by data. -/
namespace Dt
open PySem PySem.Spec PyProof.Rows L2
theorem pick_rev (x : Str) : ((Builtin.Str.strSliceIndices none none (-1) x.length).filterMap (x.cps[·]?)).toArray = x.cps.toList.reverse.toArray := by
  have e : Builtin.Str.strSliceIndices none none (-1) x.length = (List.range x.length).map fun k => x.length - 1 - k := PySem.W.krv_sliceRange x.length
  rw [e, PySem.W.krv_range, List.filterMap_reverse]
  have := PySem.W.krv_all x.cps
  show (List.filterMap (x.cps[·]?) (List.range x.cps.size)).reverse.toArray = _
  rw [this]
section
variable {X : Cx} {E : XK}
def tRevS (te : TE) : TE := fun σ H Q => te σ H fun x H1 => ∃ a : Str, x = .str a ∧ a.length ≤ sizeLine ∧ Q (.str ⟨a.cps.toList.reverse.toArray⟩) H1
theorem pe_revS {e : Expr} {te : TE} {k : Nat} {p1 p2 p3 pos : Pos} (he : PE X e te) : PE X (.Subscript e (.Slice none none (some (.UnaryOp .USub (.Constant (.int 1) k p1) p2)) p3) pos) (tRevS te) := by
  refine ⟨fun pins s σ H Q I h => ?_⟩
  refine Subscript_ (thn (he.run pins s σ H _ I h) fun v s1 ⟨x, H1, I1, r1, q1⟩ => ?_)
  obtain ⟨a, ex, hz, q⟩ := q1
  subst ex
  obtain ⟨t, rfl⟩ := r1
  have hst : PO X (some (.UnaryOp .USub (.Constant (.int 1) k p1) p2)) (tPart (tUn (rU fun i => .int (-i)) (tC (.int 1)))) := po_some (pe_un un_neg pe_int)
  refine wpAny_Slice (thn (po_none.run pins s1 σ H1 (fun o H2 => o = none ∧ H2 = H1) I1 ⟨rfl, rfl⟩) fun vl s2 ⟨l, H2, I2, pl, el, e2⟩ => ?_)
  subst el e2
  refine thn (po_none.run pins s2 σ H2 (fun o H3 => o = none ∧ H3 = H2) I2 ⟨rfl, rfl⟩) fun vu s3 ⟨u, H3, I3, pu, eu, e3⟩ => ?_
  subst eu e3
  refine thn (hst.run pins s3 σ H3 (fun o H4 => o = some (-1) ∧ H4 = H3) I3 ⟨1, rfl, -1, rfl, rfl, rfl⟩) fun vs s4 ⟨o, H4, I4, ps, eo, e4⟩ => ?_
  subst eo e4
  have I5 : Inv X pins σ H4 { s4 with heap := s4.heap.push { cls := .type "slice", data := .fields #[vl, vu, vs] } } := I4.kept (t' := s4.toks) fun b ob q => Heap.get?_push_of_some _ q
  obtain rfl : vl = .none := by cases pl; rfl
  obtain rfl : vu = .none := by cases pu; rfl
  obtain ⟨tk, rfl⟩ : ∃ tk, vs = .int (-1) tk := by cases ps; exact ⟨_, rfl⟩
  show wpAny (model X.prog X.w) X.A (subscriptTail e (.Slice none none (some (.UnaryOp .USub (.Constant (.int 1) k p1) p2)) p3) (.str a t) (.ref s4.heap.objs.size)) (EP X pins σ Q) X.xe { s4 with heap := s4.heap.push { cls := .type "slice", data := .fields #[.none, .none, .int (-1) tk] } }
  refine tail_any (ops := [.str a t, .ref s4.heap.objs.size]) (typeIs_str _ _ _) F.slot_str_getitem.lookup ?_ (by with_unfolding_all rfl)
  refine wpAny_getItem_str_slice (l := none) (u := none) (st := some (-1, tk)) ⟨_, Heap.get?_push_size _ rfl, rfl, rfl⟩ rfl ?_
  show (if ((-1 : Int) == 1 && _) = true then Made.val (.str a t) else Made.str ⟨((Builtin.Str.strSliceIndices none none (-1) a.length).filterMap (a.cps[·]?)).toArray⟩).post _ _
  rw [pick_rev]
  refine post_val_or_str ⟨?_, fun t' k' => ?_⟩
  · split
    · exact hz
    · show (List.toArray _).size ≤ _
      rw [List.size_toArray, List.length_reverse]
      exact hz
  · rw [if_neg (by rw [show ((-1 : Int) == 1) = false from rfl, Bool.false_and]; exact Bool.false_ne_true)]
    exact ⟨.str _, H4, I5.tok _, ⟨_, rfl⟩, q⟩
theorem de_rev {e : Expr} {fe : FE} {k : Nat} {p1 p2 p3 pos : Pos} (he : DE X E e fe) : DE X E (.Subscript e (.Slice none none (some (.UnaryOp .USub (.Constant (.int 1) k p1) p2)) p3) pos) (op1 revD fe) := by
  obtain ⟨t, e1, e2⟩ := he.ex
  refine ⟨_, pe_revS e1, fun σ H α ρ μ Q s l hm => ?_⟩
  refine e2 σ H α ρ μ _ s l (hm.bind.mono fun d μ1 α1 H1 _ s1 m1 q v r => ?_)
  unfold revD at q
  split at q
  · rename_i u _
    obtain ⟨rfl, o⟩ := r.str_inv
    refine ⟨_, rfl, o.1, ?_⟩
    exact same_ok s1 (.str (s := u.reverse) ⟨by rw [List.length_reverse]; exact o.1, fun c hc => o.2 c (List.mem_reverse.mp hc)⟩) q
  · exact q.elim
end
end Dt

/-! Dt15d: remove of a text from a list of texts, by data. -/
namespace Dt
open PySem PySem.Spec PyProof.Rows L2
def eqs (k : Str) (v : Value) : Bool := match v with
  | .str n _ => n.cps.toList == k.cps.toList
  | _ => false
theorem map_erAt {A B : Type} (f : A → B) : ∀ (l : List A) (j : Nat), (l.eraseIdx j).map f = (l.map f).eraseIdx j
  | [], j => by simp
  | a :: r, 0 => by simp
  | a :: r, j + 1 => by
    have ih := map_erAt f r j
    simp [ih]
theorem idx_min {t : List Nat} : ∀ (l : List (List Nat)) (m : Nat), m < l.idxOf t → l[m]? ≠ some t
  | [], m, h => by simp
  | a :: r, m, h => by
    rw [List.idxOf_cons] at h
    by_cases e : (a == t) = true
    · rw [e] at h
      exact absurd h (Nat.not_lt_zero _)
    · have e' : (a == t) = false := by simpa using e
      rw [e'] at h
      cases m with
      | zero =>
        intro hc
        cases hc
        exact e (beq_self_eq_true _)
      | succ m => exact idx_min r m (Nat.lt_of_succ_lt_succ h)
section
variable {X : Cx} {E : XK}
def rRemS : V → List V → Hp → VK → Prop := fun x xs H Q => ∃ (l : Addr) (vs : List V) (k : Str) (j : Nat), x = .ref l ∧ xs = [.str k] ∧ H l = some (.lst vs) ∧ (∀ v ∈ vs, ∃ z : Str, v = .str z) ∧ vs[j]? = some (.str k) ∧ (∀ m : Nat, m < j → vs[m]? ≠ some (.str k)) ∧ Q .non (upd H l (.lst (vs.eraseIdx j)))
theorem vals_get {xs : List V} {us : List Value} (r : Vals xs us) : ∀ {i : Nat} {u : Value}, us[i]? = some u → ∃ x, xs[i]? = some x ∧ RelV x u := by
  induction r with
  | nil => intro i u h; simp at h
  | cons p q ih =>
    intro i u h
    cases i with
    | zero => cases h; exact ⟨_, rfl, p⟩
    | succ i => exact ih h
theorem mt_remS : MtM X "list.remove" rRemS := by
  intro pins s σ H x xs v us Q I rx rxs h
  obtain ⟨l, vs, k, j, rfl, rfl, hH, hstr, hj, hno, q⟩ := h
  cases rx
  obtain ⟨u, rfl, ru⟩ := rxs.one
  obtain ⟨t, rfl⟩ := ru
  obtain ⟨z, its, n, r, hl, e⟩ := I.lstM hH
  have hlen := r.length
  have hjn : j < vs.length := (List.getElem?_eq_some_iff.mp hj).1
  have hjl : j < its.toArray.size := by rw [List.size_toArray]; omega
  have at_ : ∀ (m : Nat) (hm : m < its.toArray.size), ∃ z tz, its.toArray[m] = .str z tz ∧ vs[m]? = some (.str z) := fun m hm => by
    have h1 : its[m]? = some its.toArray[m] := by
      rw [List.getElem?_eq_getElem (by rw [List.size_toArray] at hm; exact hm)]
      simp
    obtain ⟨y, h2, h3⟩ := vals_get r h1
    obtain ⟨z, rfl⟩ := hstr y (List.mem_of_getElem? h2)
    obtain ⟨tz, h4⟩ := h3
    exact ⟨z, tz, h4, h2⟩
  refine call_meets PySem.F.slot_list_remove ⟨_, e, rfl⟩ PySem.F.entry_list_remove (PySem.F.args_list_remove_2 _ _)
    (MeetsSeq.list_remove l its.toArray n (.str k t) (eqs k) (fun y hy => ?_) j hjl ?_ ?_ (by rw [List.size_toArray]; omega)) ⟨e, ?_⟩
  · obtain ⟨m, hm, rfl⟩ := Array.mem_iff_getElem.mp hy
    obtain ⟨z, tz, h1, _⟩ := at_ m hm
    rw [h1]
    exact SeqRoads2.EqGives.str z k tz t
  · obtain ⟨z, tz, h1, h2⟩ := at_ j hjl
    rw [hj] at h2
    cases h2
    rw [h1]
    exact beq_self_eq_true k.cps.toList
  · intro m hm hmj
    obtain ⟨z, tz, h1, h2⟩ := at_ m hm
    rw [h1]
    refine beq_eq_false_iff_ne.mpr fun e2 => hno m hmj ?_
    rw [h2, show z = k by rw [← mkS_of z, ← mkS_of k, e2]]
  · refine ⟨.non, _, I.lset (its' := its.eraseIdx j) (t' := s.toks) hH e ?_ (r.eraseIdx j) ?_, rfl, q⟩
    · show its.toArray.eraseIdxIfInBounds j = (its.eraseIdx j).toArray
      rw [List.eraseIdxIfInBounds_toArray]
    · have := List.length_eraseIdx_le vs j
      omega
theorem dm_remove {K : PySem.W.Frag} : EvM K E rRemS removeD := by
  intro x xs H α dx ds μ Q s rx rs h
  unfold removeD at h
  split at h
  · rename_i k t
    obtain ⟨v, rfl, r1⟩ := rs.one_inv
    obtain ⟨rfl, o⟩ := r1.str_inv
    split at h
    · rename_i es e0
      split at h
      · rename_i ss e1
        split at h
        · rename_i hin
          obtain ⟨a, ob, rfl, ha, h1, ys, rfl, h2⟩ := own_at s rx (moL_of e0) rfl
          rw [toStrs_of e1] at h2
          obtain ⟨h3, o2⟩ := h2.strs_inv
          have hj := List.idxOf_lt_length_of_mem hin
          have hgj : ss[ss.idxOf t]? = some t := by rw [List.getElem?_eq_getElem hj, List.getElem_idxOf hj]
          have hys : ∀ m : Nat, ys[m]? = (ss[m]?).map fun z => V.str (mkS z) := fun m => by
            rw [h3, List.map_map, List.getElem?_map]
            rfl
          have hers : (ss.erase t).map D.str = (ss.map D.str).eraseIdx (ss.idxOf t) := by
            rw [List.erase_eq_eraseIdx_of_idxOf (i := ss.idxOf t) rfl, map_erAt]
          obtain ⟨s1, m1⟩ := s.write (m' := .lst _) (o := .lst (ys.eraseIdx (ss.idxOf t))) ha (moL_of e0) rfl rfl ⟨_, rfl, h2.eraseIdx (ss.idxOf t)⟩
          refine ⟨a, ys, mkS t, ss.idxOf t, rfl, rfl, h1, fun v hv => ?_, ?_, fun m hm => ?_, ?_⟩
          · rw [h3, List.map_map] at hv
            obtain ⟨z, _, rfl⟩ := List.mem_map.mp hv
            exact ⟨_, rfl⟩
          · rw [hys, hgj]
            rfl
          · rw [hys]
            intro hc
            cases hz : ss[m]? with
            | none => rw [hz] at hc; cases hc
            | some z =>
              rw [hz] at hc
              have : z = t := mkS_inj (V.str.inj (Option.some.inj hc))
              subst this
              exact idx_min ss m hm hz
          · rw [hers] at h
            exact h _ _ s1 m1 _ .non
        · exact h.elim
      · exact h.elim
    · exact h.elim
  · exact h.elim
theorem de_remove {o e : Expr} {apos pos : Pos} {fo fe : FE} (ho : DE X E o fo) (he : DE X E e fe) (hbase : attributeBase o "remove" X.env (eval o X.env) = eval o X.env := by rfl)
    (hfew : ((backTo pos (starEach [e] X.env)).all (fun x => !x.1) && (backToKw pos (keywordEach [] X.env)).all (fun x => x.1.isSome) && decide ([e].length + ([] : List Keyword).length + (if ([] : List Keyword).isEmpty then 0 else 1) < 30)) = true := by rfl)
    (hline : (apos.endLine == pos.line) = true := by rfl) (hs : starEach [e] X.env = (false, eval e X.env) :: starEach [] X.env := by rfl) :
    DE X E (.Call (.Attribute o "remove" apos) [e] [] pos) (mthL removeD fo (consA fe nilA)) := by
  obtain ⟨ta, a1, a2⟩ := ho.ex
  obtain ⟨tb, b1, b2⟩ := (da_cons he da_nil hs).ex
  exact ⟨_, pe_bm PySem.F.plainAttrs_list PySem.F.slot_list_remove PySem.F.type_list_remove mt_remS a1 b1 hbase hfew hline hs rfl, ev_bmL dm_remove a2 b2⟩
end
end Dt

/-! Dt16: sets made of lists of texts. -/
namespace Dt
open PySem PySem.Spec PyProof.Rows L2
abbrev PayS : Type := Array (Int × Value) × Nat × SetTable
/-- a set of the texts l stands at a; its table can be walked -/
def TxS (P : Program) (w : World) (h : Heap) (a : Addr) (l : List Str) : Prop := ∃ D : PayS, h.get? a = some (Froz.sObj "set" D) ∧ Froz.TxOk P w D l ∧ Ris D.2.2.place.toList ∧ (w.params.followText "set-order" = true ∨ D.2.2.led = true)
section
variable {P : Program} {w : World} {A : Around} {E : Value → Shared → Prop} {s : Shared} {a : Addr} {l : List Str}
theorem TxS.keep {h h' : Heap} (T : TxS P w h a l) (k : ∀ o, h.get? a = some o → h'.get? a = some o) : TxS P w h' a l := by
  obtain ⟨D, h1, h2⟩ := T
  exact ⟨D, k _ h1, h2⟩
def freshD (w : World) : PayS := (#[], 0, .fresh 0 0 (!w.params.followText "set-order"))
theorem TxS.new {h : Heap} (ho : h.get? a = some (Froz.sObj "set" (freshD w))) : TxS P w h a [] := by
  refine ⟨freshD w, ho, Froz.TxOk.nil (by rfl), List.Pairwise.nil, ?_⟩
  show _ ∨ (!w.params.followText "set-order") = true
  cases w.params.followText "set-order" <;> simp
theorem add_walks {D : PayS} (hv : Int) (x : Value) (hr : Ris D.2.2.place.toList) (hl : w.params.followText "set-order" = true ∨ D.2.2.led = true) : Ris (Froz.addTx hv x D).2.2.place.toList ∧ (w.params.followText "set-order" = true ∨ (Froz.addTx hv x D).2.2.led = true) := by
  obtain ⟨es, ep, t⟩ := D
  have r1 := layNew_ris t es hv x hr
  have l1 := layNew_led t es hv x
  unfold Froz.addTx Froz.tailTx
  dsimp only at *
  generalize layNew t es hv x = Z at r1 l1
  obtain ⟨es1, t1, wd, gv⟩ := Z
  dsimp only at *
  have r2 : Ris (if t1.plain = true then { t1 with plain := false } else t1).place.toList := by split <;> exact r1
  have l2 : (if t1.plain = true then { t1 with plain := false } else t1).led = t.led := by split <;> exact l1
  generalize (if t1.plain = true then { t1 with plain := false } else t1) = t2 at r2 l2
  split
  · exact ⟨relayAll_ris t2 es1 _, hl.imp id fun z => by rw [relayAll_led, l2]; exact z⟩
  · exact ⟨r2, hl.imp id fun z => by rw [l2]; exact z⟩
/-- a text more -/
theorem tx_add {k : Str} {u : Tok} {Q : Bool → Shared → Prop} (T : TxS P w s.heap a l) (room : l.length + 1 < scanBound)
    (hQ : ∀ (b : Bool) (h' : Heap), Heap.SameBut a s.heap h' → TxS P w h' a (if k ∈ l then l else k :: l) → Q b { s with heap := h' }) : wpAny (model P w) A (setAddHashed a (.str k u) (hashStr w k)) Q E s := by
  obtain ⟨D, ho, F, hr, hl⟩ := T
  by_cases hk : k ∈ l
  · have hQ' := hQ false s.heap (Heap.SameBut.refl a s.heap) (by rw [if_pos hk]; exact ⟨D, ho, F, hr, hl⟩)
    obtain ⟨es, ep, t⟩ := D
    have hfit : t.fits es.size = true := F.fit
    have hels : ElemsOf (strKind P w) es.toList := F.el
    have hcount : es.size = l.length := F.sz
    have hown : (strKind P w).is k (.str k u) = true := Froz.is_str k u
    have hdat : (Froz.sObj "set" (es, ep, t)).data = .set es ep t := rfl
    obtain ⟨e0, he0, hi0⟩ := (F.mem k).mp hk
    unfold setAddHashed setAddHashedIn
    refine wpAny_holding (wpAny_bind (wpAny_setState_of ho hdat hfit ?_))
    dsimp only
    rw [byScan_of rfl (by omega) hels, if_pos rfl]
    unfold setAddByScan
    refine wpAny_bind (wpAny_bind (wpAny_rule (wpAny_bind (wpAny_setScan_of (knd := strKind P w) (k := k) hown ho hdat hfit hels ?_))))
    cases hfind : List.findIdx? (fun e => (strKind P w).is k e.2) es.toList with
    | none =>
      have := List.findIdx?_eq_none_iff.mp hfind e0 he0
      rw [hi0] at this
      cases this
    | some j => exact wpAny_pure (wpAny_pure hQ')
  · refine Froz.add_x ho F hk room (hQ true _ (Heap.SameBut.update s.heap a _) ?_)
    rw [if_neg hk]
    obtain ⟨r2, l2⟩ := add_walks (w := w) (hashStr w k) (.str k u) hr hl
    exact ⟨_, Froz.get_upd _ ho rfl, Froz.add_ok u F, r2, l2⟩
/-- what a set holds behind so many texts -/
def HasS (P : Program) (w : World) (h : Heap) (a : Addr) (xs : List Str) : Prop := ∃ l : List Str, TxS P w h a l ∧ l.Nodup ∧ l.length ≤ xs.length ∧ ∀ k, k ∈ l ↔ k ∈ xs
theorem HasS.keep {h h' : Heap} {xs : List Str} (T : HasS P w h a xs) (k : ∀ o, h.get? a = some o → h'.get? a = some o) : HasS P w h' a xs := by
  obtain ⟨l, h1, h2⟩ := T
  exact ⟨l, h1.keep k, h2⟩
theorem upd_texts {I : Addr} {fp wr : List Addr} {G : Array GenState → Array GenState → Prop} {n : Nat} {Pv : Nat → Value → Prop} {St : Nat → Shared → Prop} {R : Result → Shared → Prop}
    (W : WalksS P w A.in1 I fp wr G n Pv St) (Z : Addr) (hZ : Z ∉ fp) (xs : List Str) (hn : n = xs.length) (room : xs.length + 1 < scanBound) (hval : ∀ i v, Pv i v → ∃ k t, xs[i]? = some k ∧ v = .str k t) :
    ∀ (m i : Nat) (s : Shared), n - i = m → i ≤ n → St i s → HasS P w s.heap Z (xs.take i) →
      (∀ s', Moved (Z :: wr) G s s' → HasS P w s'.heap Z xs → R (.ok (.ret .none)) s') → codeAny (model P w) A (.builtin "set.update.loop" ⟨[.ref Z, .ref I], []⟩) R s := by
  have hZw : Z ∉ wr := fun z => hZ (W.sub _ z)
  have hcons : ∀ b ∈ wr, b ∈ Z :: wr := fun b z => List.mem_cons_of_mem _ z
  intro m
  induction m with
  | zero =>
    intro i s hm hi hst T hR
    obtain rfl : i = n := by omega
    refine codeAny_builtin F.entry_set_update_loop ?_
    rw [Around.under_plainId F.plain_set_update_loop _]
    refine wpAny_bind (m := pyNext (.ref I)) (W.done s _ _ hst fun s' hmv => ?_)
    rw [List.take_of_length_le (by omega)] at T
    exact wpAny_pure (hR s' (hmv.mono hcons) (T.keep fun o e => hmv.heap Z o hZw e))
  | succ m ih =>
    intro i s hm hi hst T hR
    have hlt : i < n := by omega
    refine codeAny_builtin F.entry_set_update_loop ?_
    rw [Around.under_plainId F.plain_set_update_loop _]
    refine wpAny_bind (m := pyNext (.ref I)) (W.item i s _ _ hlt hst fun v s1 hP hst1 hmv => ?_)
    obtain ⟨z, t, hz, rfl⟩ := hval i v hP
    obtain ⟨l, T1, nd, hlen, hmem⟩ := T.keep (h' := s1.heap) fun o e => hmv.heap Z o hZw e
    refine wpAny_bind (m := holding [Value.str z t] (setAdd Z (.str z t))) (wpAny_holding ?_)
    unfold setAdd
    refine wpAny_holding (wpAny_bind ((strKind P w).pyHash (k := z) (Froz.is_str z t) ?_))
    rw [List.length_take] at hlen
    refine tx_add (s := { s1 with toks := s1.toks + 1 }) T1 (by omega) fun b h' sb T2 => ?_
    have T3 : HasS P w h' Z (xs.take (i + 1)) := by
      have hti : xs.take (i + 1) = xs.take i ++ [z] := by rw [List.take_add_one, hz]; rfl
      refine ⟨_, T2, ?_, ?_, fun k => ?_⟩
      · split
        · exact nd
        · rename_i hno; exact List.nodup_cons.mpr ⟨hno, nd⟩
      · rw [List.length_take]
        split
        · omega
        · rw [List.length_cons]; omega
      · rw [hti, List.mem_append, List.mem_singleton, ← hmem k]
        split
        · rename_i hyes
          exact ⟨.inl, fun y => y.elim id fun e => e ▸ hyes⟩
        · rw [List.mem_cons]; exact Or.comm
    have hoth : ∀ (b : Addr) (o : Obj), b ≠ Z → s1.heap.get? b = some o → h'.get? b = some o := fun b o hb e => by rw [sb.2 b hb]; exact e
    refine wpAny_pure ⟨plainId_quiet F.plain_set_update_loop _, ih (i + 1) _ (by omega) hlt (W.frame _ s1 _ _ hst1 (Nat.le_succ _) fun b hb o e => hoth b o (fun z => hZ (z ▸ hb)) e) T3 fun s2 hmv2 T4 => hR s2 (Moved.trans W.gtrans ((hmv.mono hcons).then_heap (Nat.le_succ _) fun b o hb e => hoth b o (fun z => hb (z ▸ List.mem_cons_self)) e) hmv2) T4⟩
end
end Dt

/-! Dt16b: set(list of texts), its length, its members in order. -/
namespace Dt
open PySem PySem.Spec PyProof.Rows L2
section
variable {P : Program} {w : World} {A : Around} {E : Value → Shared → Prop} {s : Shared}
def freshS (w : World) : Obj := Froz.sObj "set" (freshD w)
theorem set_of_texts {l : Addr} {items : Array Value} {xs : List Str} {Q : Value → Shared → Prop} (hh : A.handled = none) (hl : s.heap.IsList l items) (hi : StrsAre items.toList xs) (room : xs.length + 1 < scanBound)
    (hQ : ∀ (h' : Heap) (tk : Nat), HasS P w h' s.heap.objs.size xs → (∀ b o, s.heap.get? b = some o → h'.get? b = some o) → Q (.ref s.heap.objs.size) { s with heap := h', toks := tk }) :
    wpAny (model P w) A (call (.type "set") [.ref l]) Q E s := by
  have hsz : items.size = xs.length := by rw [← StrsAre.len_eq hi, Array.length_toList]
  obtain ⟨c, tl, hmro⟩ := F.called_set.mro
  have hmade := F.called_set.made
  have hsub := F.called_set.sub
  have hnt := F.called_set.notType
  have hcc := F.called_set.canCreate
  have hct := F.typeCall_set_1 (.ref l)
  have hli := F.called_set.init.lookup
  have hbi := F.called_set.init.bind (.ref s.heap.objs.size)
  have hnew : (s.heap.push (freshS w)).get? s.heap.objs.size = some (freshS w) := Heap.get?_push_size _ rfl
  have hty : Shared.TypeIs { s with heap := s.heap.push (freshS w) } (.ref s.heap.objs.size) "set" := ⟨_, hnew, rfl⟩
  have hsl : (s.heap.push (freshS w)).objs.size = s.heap.objs.size + 1 := Heap.size_push ..
  refine wpAny_call (codeAny_of_tree ?_)
  show wpAny _ _ (callAny (.type "set") _) _ _ _
  refine wpAny_pure ⟨Code.quiet_builtin _ (by decide +kernel), codeAny_builtin F.entry_type_call ?_⟩
  rw [Around.under_plain (weight_type_call_type "set" [.ref l] []) rfl]
  repeat (any_goals (first | assumption | wp_step))
  refine codeAny_mono (code_set_led1 (.ref l) (E := E) (Q₁ := fun v s1 => v = .ref s.heap.objs.size ∧ s1 = { s with heap := s.heap.push (freshS w) }) ⟨rfl, rfl⟩) fun r s1 hr => ?_
  match r, hr with
  | .error e, hr => exact hr
  | .ok (.ret v), hr =>
    obtain ⟨rfl, rfl⟩ := hr
    repeat (any_goals (first | assumption | wp_step))
    refine codeAny_mono (codeAny_call_builtin (R := wants (fun v s2 => v = .none ∧ ∃ h' tk, s2 = { s with heap := h', toks := tk } ∧ HasS P w h' s.heap.objs.size xs ∧ (∀ b o, s.heap.get? b = some o → h'.get? b = some o)) E) F.called_set.init.plain F.entry_set_init (check_set_init_1 hty ?_)) fun r2 s2 hr2 => ?_
    · obtain ⟨⟨ocls, odict, odata, oslots⟩, hol, hcl, nl, hdl⟩ := hl
      simp only at hcl hdl
      subst hcl hdl
      have hol' := Heap.get?_push_of_some (freshS w) hol
      have hl1 : (s.heap.push (freshS w)).IsList l items := ⟨_, hol', rfl, nl, rfl⟩
      have k1 := F.sub_list_set
      have k2 := F.sub_list_frozenset
      have k3 : (Value.type "list" == Value.type "dict") = false := by decide
      unfold Builtin.«set.__init__» noKeywords Builtin.Frozenset.updateFrom
      generalize hPI : pyIter = PI
      wp_walk
      subst hPI
      refine wpAny_pyIter_list hl1 (wpAny_bind (wpAny_runValue ?_))
      have hlt : l < s.heap.objs.size := Heap.lt_size hol
      have hne : l ≠ (s.heap.push (freshS w)).objs.size := by rw [hsl]; exact Nat.ne_of_lt (Nat.lt_succ_of_lt hlt)
      have hout : s.heap.objs.size ∉ [(s.heap.push (freshS w)).objs.size, l] := by
        intro z
        rw [hsl] at z
        rcases List.mem_cons.mp z with z | z
        · exact absurd z (Nat.ne_of_lt (Nat.lt_succ_self _))
        · exact absurd (List.mem_singleton.mp z) (Nat.ne_of_gt hlt)
      have hh3 : A.in1.in1.in1.handled = none := by simp [hh]
      refine upd_texts ((Walks.list hh3 _ l hne items).toS) s.heap.objs.size hout xs hsz room (fun i v hv => ?_) (items.size - 0) 0 _ (by omega) (Nat.zero_le _) ⟨⟨_, Heap.get?_push_size _ rfl, rfl, rfl⟩, (hl1.push _)⟩ ⟨[], TxS.new (Heap.get?_push_of_some _ hnew), List.nodup_nil, Nat.zero_le _, fun k => by simp⟩ fun s3 hm T => ?_
      · have hv' : items[i]? = some v := hv
        have hi2 : i < xs.length := by rw [← hsz]; exact (Array.getElem?_eq_some_iff.mp hv').1
        obtain ⟨t, e⟩ := SS.strs_at hi i v (by rw [Array.getElem?_toList]; exact hv')
        refine ⟨xs[i], t, List.getElem?_eq_getElem hi2, ?_⟩
        rw [e, List.getD_eq_getElem?_getD, List.getElem?_eq_getElem hi2]
        rfl
      · obtain ⟨h', g2, d', tk', os'⟩ := s3
        obtain rfl : g2 = s.gens := hm.gens
        obtain rfl : d' = s.drawn := hm.drawn
        obtain rfl : os' = s.os := hm.os
        show wpAny _ _ _ _ _ _
        refine wpAny_pure ?_
        show wpAny _ _ (ret Value.none) _ _ _
        refine wpAny_pure ⟨rfl, h', tk', rfl, T, fun b o e => ?_⟩
        have hb := Heap.lt_size e
        refine hm.heap b o (fun z => ?_) (Heap.get?_push_of_some _ (Heap.get?_push_of_some _ e))
        rcases List.mem_cons.mp z with z | z
        · exact absurd z (Nat.ne_of_lt hb)
        · have z := List.mem_singleton.mp z
          rw [hsl] at z
          exact absurd z (Nat.ne_of_lt (Nat.lt_succ_of_lt hb))
    · match r2, hr2 with
      | .error e, hr2 => exact hr2
      | .ok (.ret v), hr2 =>
        obtain ⟨rfl, h', tk, rfl, T, k⟩ := hr2
        repeat (any_goals (first | assumption | wp_step))
        exact hQ _ _ T k
/-- its members in order -/
def ltSv (v u : Value) : Bool := match v, u with
  | .str a _, .str b _ => decide (a.cps.toList < b.cps.toList)
  | _, _ => false
end
end Dt

/-! Dt16c: how many texts a set holds, its texts in order: rules. -/
namespace Dt
open PySem PySem.Spec PyProof.Rows L2
theorem perm_sub {A : Type} [DecidableEq A] : ∀ {l zs : List A}, l.Nodup → (∀ x ∈ l, x ∈ zs) → zs.length = l.length → zs.Perm l
  | [], zs, _, _, h => by
    cases List.length_eq_zero_iff.mp h
    exact .nil
  | x :: r, zs, nd, hs, h => by
    have hx := hs x List.mem_cons_self
    obtain ⟨h1, h2⟩ := List.nodup_cons.mp nd
    have p := List.perm_cons_erase hx
    have hl := p.length_eq
    rw [List.length_cons] at hl
    rw [List.length_cons] at h
    refine p.trans (.cons x (perm_sub h2 (fun y hy => ?_) (by omega)))
    have hne : y ≠ x := fun z => h1 (z ▸ hy)
    exact (List.mem_erase_of_ne hne).mpr (hs y (List.mem_cons_of_mem _ hy))
theorem nodup_perm {A : Type} [DecidableEq A] {l m : List A} (h1 : l.Nodup) (h2 : m.Nodup) (h : ∀ x, x ∈ l ↔ x ∈ m) : l.Perm m := by
  have le : ∀ {a b : List A}, a.Nodup → (∀ x ∈ a, x ∈ b) → a.length ≤ b.length := by
    intro a
    induction a with
    | nil => intro b _ _; exact Nat.zero_le _
    | cons x r ih =>
      intro b nd hs
      obtain ⟨q1, q2⟩ := List.nodup_cons.mp nd
      have p := List.perm_cons_erase (hs x List.mem_cons_self)
      have := p.length_eq
      rw [List.length_cons] at this
      have := ih q2 (b := b.erase x) (fun y hy => (List.mem_erase_of_ne (fun z => q1 (by rw [← z]; exact hy))).mpr (hs y (List.mem_cons_of_mem _ hy)))
      rw [List.length_cons]
      omega
  have a := le h1 fun x hx => (h x).mp hx
  have b := le h2 fun x hx => (h x).mpr hx
  exact perm_sub h2 (fun x hx => (h x).mpr hx) (by omega)
/-- texts in order: there is one order only -/
theorem one_order {A : Type} {le : A → A → Prop} (anti : ∀ a b, le a b → le b a → a = b) : ∀ {l m : List A}, l.Perm m → l.Pairwise le → m.Pairwise le → l = m
  | [], m, p, _, _ => p.nil_eq
  | x :: r, [], p, _, _ => by have := p.length_eq; simp at this
  | x :: r, y :: t, p, h1, h2 => by
    obtain ⟨a1, a2⟩ := List.pairwise_cons.mp h1
    obtain ⟨b1, b2⟩ := List.pairwise_cons.mp h2
    have hxy : x = y := by
      have hx : x ∈ y :: t := p.mem_iff.mp List.mem_cons_self
      have hy : y ∈ x :: r := p.mem_iff.mpr List.mem_cons_self
      rcases List.mem_cons.mp hx with e | hx
      · exact e
      · rcases List.mem_cons.mp hy with e | hy
        · exact e.symm
        · exact anti _ _ (a1 y hy) (b1 x hx)
    subst hxy
    rw [one_order anti ((List.perm_cons _).mp p) a2 b2]
def ltTv (v u : Value) : Bool := decide ((strOf v).cps.toList < (strOf u).cps.toList)
theorem swo_strs : SrtO.Swo ltTv := by
  refine ⟨fun x y h => ?_, fun x y z h1 h2 => ?_⟩
  · have a := of_decide_eq_true (p := (strOf x).cps.toList < (strOf y).cps.toList) h
    exact decide_eq_false (p := (strOf y).cps.toList < (strOf x).cps.toList) (List.lt_asymm a)
  · have a := of_decide_eq_false (p := (strOf y).cps.toList < (strOf x).cps.toList) h1
    have b := of_decide_eq_false (p := (strOf z).cps.toList < (strOf y).cps.toList) h2
    exact decide_eq_false (p := (strOf z).cps.toList < (strOf x).cps.toList) fun hz => b (by
      rcases Classical.em ((strOf y).cps.toList < (strOf x).cps.toList) with q | q
      · exact absurd q a
      · rcases Classical.em ((strOf x).cps.toList < (strOf y).cps.toList) with q2 | q2
        · exact List.lt_trans hz q2
        · rw [← List.le_antisymm (List.not_lt.mp q) (List.not_lt.mp q2)]; exact hz)
theorem isStr_shape {k : Str} {v : Value} (h : Value.isStrOf k v = true) : ∃ t, v = .str k t := by
  cases v <;> simp [Value.isStrOf] at h
  subst h
  exact ⟨_, rfl⟩
section
variable {P : Program} {w : World} {A : Around} {E : Value → Shared → Prop} {s : Shared} {a : Addr} {l : List Str}
theorem strs_sortable {vs : List Value} (hv : ∀ v ∈ vs, ∃ x t, v = Value.str x t) (h2 : 2 ≤ vs.length) : SrtO.SortableO P w A s a vs ltTv := by
  intro h' _
  refine ⟨oneType', fun Q E hq => ?_, fun p q hm hm' => ?_⟩
  · match vs, hv, h2 with
    | v1 :: v2 :: rest, hv, _ =>
      rw [keyKind_strs (strsAre_map (v1 :: v2 :: rest) hv)]
      exact wpAny_pure hq
    | [], _, h => exact absurd h (by decide)
    | [v], _, h => exact absurd h (by simp)
  · obtain ⟨x, t, e⟩ := hv _ hm
    obtain ⟨y, u, e'⟩ := hv _ hm'
    show wpAny (model P w) A (keyLt' oneType' p.1 q.1) (fun r s' => s' = _ ∧ r = ltTv p.1 q.1) (fun _ _ => False) _
    rw [e, e', keyLt'_oneType]
    exact oneLt_str ⟨rfl, rfl⟩
theorem sorted_texts {Q : Value → Shared → Prop} (T : TxS P w s.heap a l) (nd : l.Nodup) (hh : A.handled = none) (hn : l.length < scanBound)
    (hQ : ∀ s' p (out : List Value) (c : Nat) (zs : List Str), (∀ b o, s.heap.get? b = some o → s'.heap.get? b = some o) → s'.gens = s.gens → s'.os = s.os → s.heap.objs.size ≤ p →
      s'.heap.get? p = some (seqObj "list" out.toArray c) → StrsAre out zs → zs.Perm l → zs.Pairwise (fun x y => ¬ y.cps.toList < x.cps.toList) → Q (.ref p) s') :
    wpAny (model P w) A (call (.builtin "sorted") [.ref a]) Q E s := by
  obtain ⟨⟨es, ep, t⟩, ho, F, hr, hl⟩ := T
  have hcount : es.size = l.length := F.sz
  have hb0 : es.size < scanBound := by omega
  refine Calls.call_function_entry kind_sorted plain_sorted entry_sorted (args_sorted1 _) ?_
  unfold Builtin.«sorted»
  refine wpAny_bind (m := checkCount "sorted" 1 1 _) (wpAny_pure ?_)
  refine wpAny_bind (collect_set (A := A.in1) hh ⟨_, ho, rfl, rfl⟩ F.fit hb0 hr hl fun s1 vs k1 hz g1 o1 pm => ?_)
  have hvl : vs.length = l.length := by rw [pm.length_eq, List.length_map, Array.length_toList]; exact hcount
  have hstr : ∀ v ∈ vs, ∃ x t, v = Value.str x t := fun v hv => by
    obtain ⟨e, he, rfl⟩ := List.mem_map.mp (pm.mem_iff.mp hv)
    obtain ⟨⟨k, hk, _⟩, _⟩ := F.el e he
    obtain ⟨t', ht'⟩ := isStr_shape hk
    exact ⟨k, t', ht'⟩
  have hall := strsAre_map vs hstr
  have hsub : ∀ k ∈ l, k ∈ vs.map strOf := fun k hk => by
    obtain ⟨e, he, hi⟩ := (F.mem k).mp hk
    obtain ⟨t', ht'⟩ := isStr_shape hi
    exact List.mem_map.mpr ⟨e.2, pm.mem_iff.mpr (List.mem_map.mpr ⟨e, he, rfl⟩), by rw [ht']; rfl⟩
  have pz : (vs.map strOf).Perm l := perm_sub nd hsub (by rw [List.length_map]; exact hvl)
  have hsl : vs.length ≤ sizeLine := by rw [hvl]; exact fits_of_scanBound hn
  refine wpAny_bind (wpAny_newList ?_ hsl)
  have hoL : (s1.heap.push (seqObj "list" vs.toArray 0)).get? s1.heap.objs.size = some (seqObj "list" vs.toArray 0) := Heap.get?_push_size _ rfl
  refine wpAny_bind (wpAny_holding (wpAny_call_entry slot_list_sort ⟨_, hoL, rfl⟩ entry_list_sort (SrtO.list_sort_ord swo_strs hoL hsl (fun h2 => strs_sortable hstr h2) fun out h1 h2 => ⟨_, rfl, ?_⟩) (args_list_sort _)))
  obtain ⟨c, hc⟩ := sortedHeap_at (vs := vs) (out := out.toArray) hoL
  have hout : ∀ v ∈ out, ∃ x t, v = Value.str x t := fun v hv => hstr v (h2.perm.mem_iff.mp hv)
  refine wpAny_pure ⟨_, rfl, hQ _ s1.heap.objs.size out c (out.map strOf) (fun b u e => ?_) g1 o1 hz hc (strsAre_map out hout) ((h2.perm.map strOf).trans pz) ?_⟩
  · have q1 := k1 b u e
    have hlt := Heap.lt_size q1
    show (sortedHeap (s1.heap.push (seqObj "list" vs.toArray 0)) s1.heap.objs.size vs out.toArray).get? b = some u
    rw [sortedHeap_old (Nat.ne_of_lt hlt) (by rw [Heap.size_push]; exact Nat.lt_succ_of_lt hlt)]
    exact Heap.get?_push_of_some _ q1
  · exact List.pairwise_map.mpr (h1.imp fun {x y} h => of_decide_eq_false (p := (strOf y).cps.toList < (strOf x).cps.toList) h)
end
end Dt

/-! Dt16d: len(set(xs)), sorted(set(xs)), xs texts: rules. -/
namespace Dt
open PySem PySem.Spec PyProof.Rows L2
def tLenTx (K : PySem.W.Frag) (ta : TE) : TE := fun σ H Q => ta σ H fun x H1 => ∃ (l : Addr) (ys : List Str), x = .ref l ∧ SqL K H1 l (ys.map V.str) ∧ ys.length ≤ 1000 ∧ ∀ zs : List Str, zs.Nodup → (∀ k, k ∈ zs ↔ k ∈ ys) → Q (.int (zs.length : Nat)) H1
def tSortTx (K : PySem.W.Frag) (ta : TE) : TE := fun σ H Q => ta σ H fun x H1 => ∃ (l : Addr) (ys : List Str), x = .ref l ∧ SqL K H1 l (ys.map V.str) ∧ ys.length ≤ 1000 ∧ ∀ (zs : List Str) (p : Addr), zs.Nodup → (∀ k, k ∈ zs ↔ k ∈ ys) → zs.Pairwise (fun x y => ¬ y.cps.toList < x.cps.toList) → H1 p = none → Q (.ref p) (upd H1 p (.lst (zs.map V.str)))
theorem vals_strs : ∀ {zs : List Str} {us : List Value}, StrsAre us zs → Vals (zs.map V.str) us
  | _, _, .nil => .nil
  | _, _, .cons x t h => .cons ⟨t, rfl⟩ (vals_strs h)
section
variable {X : Cx} {E : XK} {a : Expr} {ta : TE} {p p2 q pos : Pos}
theorem pe_lenTx (hc : X.calm = true) (hm : X.mg "len" = none) (hm2 : X.mg "set" = none) (ha : PE X a ta) (hg : Gl X "len" := by rfl) (hg2 : Gl X "set" := by rfl)
    (na : starEach [a] X.env = (false, eval a X.env) :: starEach [] X.env := by rfl) : PE X (.Call (.Name "len" p) [.Call (.Name "set" p2) [a] [] q] [] pos) (tLenTx X.K ta) := by
  refine ⟨fun pins s σ H Q I h => ?_⟩
  refine Call_ (ld_blt I hg hm boot_len (PyProof.Rows.callWith_builtin1 (PyProof.Rows.args_cons ?_ rfl) rfl rfl))
  refine Call_ (ld_blt I hg2 hm2 boot_set (PyProof.Rows.callWith_type1 (PyProof.Rows.args_cons (thn (ha.run pins s σ H _ I h) fun v s1 ⟨x, H1, I1, r1, h1⟩ => PyProof.Rows.args_nil ?_) na) na rfl))
  obtain ⟨l, ys, rfl, hq, hl, hQ⟩ := h1
  cases r1
  obtain ⟨its, r, pl, hz⟩ := I1.list hq
  refine set_of_texts (xs := ys) (I1.ok.hd hc) pl.isList (by simpa using strsAre_of r) (by unfold scanBound; omega) fun h' tk ⟨zs, ⟨⟨es, ep, t⟩, ho, F, _⟩, nd, hle, hmem⟩ hk => PyProof.Rows.args_nil ?_
  have hcount : es.size = zs.length := F.sz
  have I2 : Inv X pins σ H1 { s1 with heap := h', toks := tk } := I1.kept hk
  have hfit : t.fits es.size = true := F.fit
  refine call_len_set (s := { s1 with heap := h', toks := tk }) (es := es) (ep := ep) (t := t) ho ⟨rfl, rfl, rfl⟩ rfl hfit (by omega) ⟨.int (zs.length : Nat), H1, I2.tok _, ⟨_, by rw [hcount]⟩, hQ zs nd hmem⟩
theorem pe_sortTx (hc : X.calm = true) (hm : X.mg "sorted" = none) (hm2 : X.mg "set" = none) (ha : PE X a ta) (hg : Gl X "sorted" := by rfl) (hg2 : Gl X "set" := by rfl)
    (na : starEach [a] X.env = (false, eval a X.env) :: starEach [] X.env := by rfl) : PE X (.Call (.Name "sorted" p) [.Call (.Name "set" p2) [a] [] q] [] pos) (tSortTx X.K ta) := by
  refine ⟨fun pins s σ H Q I h => ?_⟩
  refine Call_ (ld_blt I hg hm boot_sorted_ (PyProof.Rows.callWith_builtin1 (PyProof.Rows.args_cons ?_ rfl) rfl rfl))
  refine Call_ (ld_blt I hg2 hm2 boot_set (PyProof.Rows.callWith_type1 (PyProof.Rows.args_cons (thn (ha.run pins s σ H _ I h) fun v s1 ⟨x, H1, I1, r1, h1⟩ => PyProof.Rows.args_nil ?_) na) na rfl))
  obtain ⟨l, ys, rfl, hq, hl, hQ⟩ := h1
  cases r1
  obtain ⟨its, r, pl, hz⟩ := I1.list hq
  refine set_of_texts (xs := ys) (I1.ok.hd hc) pl.isList (by simpa using strsAre_of r) (by unfold scanBound; omega) fun h' tk ⟨zs, T, nd, hle, hmem⟩ hk => PyProof.Rows.args_nil ?_
  have I2 : Inv X pins σ H1 { s1 with heap := h', toks := tk } := I1.kept hk
  refine sorted_texts (P := X.prog) T nd (I2.ok.hd hc) (by unfold scanBound; omega) fun s' p' out c ws k g o hp hgt hout pm pw => ?_
  have hn : H1 p' = none := I2.hok.fresh hp
  have hlen : (ws.map V.str).length ≤ sizeLine := by rw [List.length_map, pm.length_eq, sizeLine_eq]; omega
  have J : Inv X pins σ (upd H1 p' (.lst (ws.map V.str))) s' := I2.call' (ch := []) o (Un.laid k hp hn) (I2.hok.laid k hp ⟨hlen, out, c, vals_strs hout, hgt⟩) (by rw [g]; exact I2.bare) (fun _ z => nomatch z)
  exact ⟨.ref p', _, J, rfl, hQ ws p' (pm.nodup_iff.mpr nd) (fun x => pm.mem_iff.trans (hmem x)) pw hn⟩
/-! what they tell -/
def sortTxL (ss : List (List Nat)) : List (List Nat) := ss.eraseDups.mergeSort fun a b => !decide (b < a)
def lenTxD : D → Mu → Out D := fun d μ => match getL d μ with
  | some es => match toStrs es with
    | some ss => if ss.length ≤ 1000 then .ok (.int (ss.eraseDups.length : Nat)) μ else .bad
    | none => .bad
  | none => .bad
def sortTxD (b : Bool) : D → Mu → Out D := fun d μ => match getL d μ with
  | some es => match toStrs es with
    | some ss => if ss.length ≤ 1000 then mkL b ((sortTxL ss).map D.str) μ else .bad
    | none => .bad
  | none => .bad
theorem nodup_dupsN {A : Type} [BEq A] [LawfulBEq A] : ∀ (n : Nat) (ss : List A), ss.length ≤ n → ss.eraseDups.Nodup ∧ ∀ k, k ∈ ss.eraseDups ↔ k ∈ ss
  | _, [], _ => ⟨by simp, fun k => by simp⟩
  | 0, _ :: _, h => absurd h (by simp)
  | n + 1, x :: r, h => by
    have hl : (r.filter fun b => !b == x).length ≤ n := Nat.le_trans (List.length_filter_le _ _) (by simpa using h)
    obtain ⟨h1, h2⟩ := nodup_dupsN n (r.filter fun b => !b == x) hl
    rw [List.eraseDups_cons]
    refine ⟨List.nodup_cons.mpr ⟨fun z => ?_, h1⟩, fun k => ?_⟩
    · have := (List.mem_filter.mp ((h2 x).mp z)).2
      simp at this
    · rw [List.mem_cons, List.mem_cons, h2 k, List.mem_filter]
      by_cases e : k = x
      · simp [e]
      · simp [e]
theorem nodup_dups (ss : List (List Nat)) : ss.eraseDups.Nodup ∧ ∀ k, k ∈ ss.eraseDups ↔ k ∈ ss := nodup_dupsN _ ss (Nat.le_refl _)
theorem mkS_inj2 {a b : List Nat} (h : mkS a = mkS b) : a = b := mkS_inj h
theorem mem_mkS {ss : List (List Nat)} {k : List Nat} : mkS k ∈ ss.map mkS ↔ k ∈ ss := by
  rw [List.mem_map]
  exact ⟨fun ⟨x, h1, h2⟩ => mkS_inj h2 ▸ h1, fun h => ⟨k, h, rfl⟩⟩
theorem back_mkS (zs : List Str) : zs = (zs.map fun z => z.cps.toList).map mkS := by
  rw [List.map_map]
  conv => lhs; rw [← List.map_id zs]
  exact List.map_congr_left fun z _ => (mkS_of z).symm
theorem nodup_back {zs : List Str} (h : zs.Nodup) : (zs.map fun z => z.cps.toList).Nodup := by
  rw [List.nodup_iff_pairwise_ne] at *
  rw [List.pairwise_map]
  exact h.imp fun {a b} hab e => hab (by rw [← mkS_of a, ← mkS_of b, e])
theorem mem_back {zs : List Str} {ss : List (List Nat)} (h : ∀ k, k ∈ zs ↔ k ∈ ss.map mkS) (x : List Nat) : x ∈ (zs.map fun z => z.cps.toList) ↔ x ∈ ss := by
  rw [List.mem_map]
  constructor
  · rintro ⟨z, hz, rfl⟩
    have := (h z).mp hz
    rw [← mkS_of z, mem_mkS] at this
    exact this
  · intro hx
    exact ⟨mkS x, (h _).mpr (mem_mkS.mpr hx), mkS_cps x⟩
theorem de_lenTx {fe : FE} (hc : X.calm = true) (hm : X.mg "len" = none) (hm2 : X.mg "set" = none) (ha : DE X E a fe) (hg : Gl X "len" := by rfl) (hg2 : Gl X "set" := by rfl)
    (na : starEach [a] X.env = (false, eval a X.env) :: starEach [] X.env := by rfl) : DE X E (.Call (.Name "len" p) [.Call (.Name "set" p2) [a] [] q] [] pos) (op1 lenTxD fe) := by
  obtain ⟨t, h1, h2⟩ := ha.ex
  refine ⟨_, pe_lenTx hc hm hm2 h1 hg hg2 na, fun σ H α ρ μ Q s l hq => ?_⟩
  refine h2 σ H α ρ μ _ s l (hq.bind.mono fun d μ1 α1 H1 _ s1 m1 q1 v1 r1 => ?_)
  unfold lenTxD at q1
  split at q1
  · rename_i es e0
    split at q1
    · rename_i ss e1
      split at q1
      · rename_i hl
        obtain ⟨ad, xs, rfl, h3, h4⟩ := getL_at e0 s1 r1
        rw [toStrs_of e1] at h4
        obtain ⟨h5, h6⟩ := h4.strs_inv
        rw [h5] at h3
        refine ⟨ad, ss.map mkS, rfl, SqL.of h3, by rw [List.length_map]; exact hl, fun zs nd hm => ?_⟩
        have : zs.length = ss.eraseDups.length := by
          have pz := nodup_perm (nodup_back nd) (nodup_dups ss).1 fun x => (mem_back hm x).trans ((nodup_dups ss).2 x).symm
          rw [← pz.length_eq, List.length_map]
        rw [this]
        exact same_ok s1 .int q1
      · exact q1.elim
    · exact q1.elim
  · exact q1.elim
theorem de_sortTx {fe : FE} (b : Bool) (hc : X.calm = true) (hm : X.mg "sorted" = none) (hm2 : X.mg "set" = none) (ha : DE X E a fe) (hg : Gl X "sorted" := by rfl) (hg2 : Gl X "set" := by rfl)
    (na : starEach [a] X.env = (false, eval a X.env) :: starEach [] X.env := by rfl) : DE X E (.Call (.Name "sorted" p) [.Call (.Name "set" p2) [a] [] q] [] pos) (op1 (sortTxD b) fe) := by
  obtain ⟨t, h1, h2⟩ := ha.ex
  refine ⟨_, pe_sortTx hc hm hm2 h1 hg hg2 na, fun σ H α ρ μ Q s l hq => ?_⟩
  refine h2 σ H α ρ μ _ s l (hq.bind.mono fun d μ1 α1 H1 _ s1 m1 q1 v1 r1 => ?_)
  unfold sortTxD at q1
  split at q1
  · rename_i es e0
    split at q1
    · rename_i ss e1
      split at q1
      · rename_i hl
        obtain ⟨ad, xs, rfl, h3, h4⟩ := getL_at e0 s1 r1
        rw [toStrs_of e1] at h4
        obtain ⟨h5, h6⟩ := h4.strs_inv
        rw [h5] at h3
        refine ⟨ad, ss.map mkS, rfl, SqL.of h3, by rw [List.length_map]; exact hl, fun zs p' nd hm pw hn => ?_⟩
        have hz : (zs.map fun z => z.cps.toList) = sortTxL ss := by
          refine one_order (le := fun a b => ¬ b < a) (fun a b h1 h2 => List.le_antisymm (List.not_lt.mp h1) (List.not_lt.mp h2)) ((nodup_perm (nodup_back nd) (nodup_dups ss).1 fun x => (mem_back hm x).trans ((nodup_dups ss).2 x).symm).trans (List.mergeSort_perm _ _).symm) (List.pairwise_map.mpr pw) ?_
          have hs := List.pairwise_mergeSort (le := fun a b : List Nat => !decide (b < a)) (fun a b c h1 h2 => ?_) (fun a b => ?_) ss.eraseDups
          · exact hs.imp fun {a b} h => by simpa using h
          · simp only [Bool.not_eq_true', decide_eq_false_iff_not] at *
            exact List.not_lt.mpr (List.le_trans (List.not_lt.mp h1) (List.not_lt.mp h2))
          · simp only [Bool.or_eq_true, Bool.not_eq_true', decide_eq_false_iff_not]
            rcases Classical.em (b < a) with z | z
            · exact .inr (List.lt_asymm z)
            · exact .inl z
        rw [back_mkS zs, hz]
        refine mkL_ok s1 (DenL.strs fun x hx => h6 x ?_) q1 p' hn
        exact ((nodup_dups ss).2 x).mp ((List.mergeSort_perm _ _).mem_iff.mp hx)
      · exact q1.elim
    · exact q1.elim
  · exact q1.elim
end
end Dt

/-! Dl: what the defs do, as functions on data. Printed by gen.py. -/
namespace Fn
open PySem L2 Dt
/-- the same, but not unfolded by reckoning -/
theorem seal_ex {A : Type} (a : A) : ∃ x, x = a := ⟨a, rfl⟩
noncomputable def sealed {A : Type} (a : A) : A := Classical.choose (seal_ex a)
theorem sealed_eq {A : Type} (a : A) : sealed a = a := Classical.choose_spec (seal_ex a)
/-- the classes of the program -/
structure CC where
  Run : Addr := 0
  Machine : Addr := 0
  Shelf : Addr := 0
/-! law_next: 0 _law_h, 1 _law_many, 2 _law_at, 3 _law_cell -/
noncomputable def b_law_next : FS :=
  (seqS (asgS (op2 modD (op2 ixD (vE 0) (cE (.int 2))) (callE max2D (consA (cE (.int 1)) (consA (callE lenD (consA (op2 ixD (vE 0) (cE (.int 1))) nilA)) nilA)))) (nameG 2))
  (seqS (asgS (ifE (toB (op2 neD (op2 ixD (vE 0) (cE (.int 1))) (lstE false nilA))) (op2 ixD (op2 ixD (vE 0) (cE (.int 1))) (vE 2)) (cE (.int 0))) (nameG 3))
  (seqS (ifS (toB (op2 geD (vE 3) (op2 powD (cE (.int 10)) (cE (.int 18)))))
  (seqS (setS (op2 fdivD (vE 3) (vE 1)) (op2 ixD (vE 0) (cE (.int 1))) (vE 2))
  (retS (op2 modD (vE 3) (vE 1))))
  nilS)
  (seqS (setS (op2 modD (op2 (addD false) (op2 (addD false) (op2 mulD (op2 ixD (vE 0) (cE (.int 0))) (cE (.int 48271))) (op2 mulD (vE 3) (cE (.int 69621)))) (cE (.int 11))) (cE (.int 2147483647))) (vE 0) (cE (.int 0)))
  (seqS (setS (op2 (addD false) (op2 ixD (vE 0) (cE (.int 2))) (cE (.int 1))) (vE 0) (cE (.int 2)))
  (retS (op2 modD (op2 fdivD (op2 ixD (vE 0) (cE (.int 0))) (cE (.int 7))) (vE 1))))))))
noncomputable def g_law_next : FF := sealed (fnF 4 false (b_law_next))
theorem e_law_next : g_law_next = fnF 4 false (b_law_next) := sealed_eq _
/-! law_letters: 0 _law_h, 1 _law_turn, 2 _law_k -/
noncomputable def b_law_letters : FS :=
  (seqS (asgS (cllE Fn.g_law_next 2 (consA (vE 0) (consA (cE (.int 26)) nilA))) (nameG 1))
  (retS (mth1 joinD (cE (.str [])) (lcE false (rng1I (consA (op2 (addD false) (cE (.int 2)) (cllE Fn.g_law_next 2 (consA (vE 0) (consA (cE (.int 5)) nilA)))) nilA)) (nameG 2) yesT (op2 ixD (cE (.str [97, 98, 99, 100, 101, 102, 103, 104, 105, 106, 107, 108, 109, 110, 111, 112, 113, 114, 115, 116, 117, 118, 119, 120, 121, 122])) (op2 modD (op2 (addD false) (vE 1) (op2 mulD (cE (.int 7)) (vE 2))) (cE (.int 26)))) [2]))))
noncomputable def g_law_letters : FF := sealed (fnF 3 true (b_law_letters))
theorem e_law_letters : g_law_letters = fnF 3 true (b_law_letters) := sealed_eq _
/-! law_scale: 0 _law_h -/
noncomputable def b_law_scale : FS :=
  (retS (tupE (consA (op2 (addD false) (cE (.int 1)) (cllE Fn.g_law_next 2 (consA (vE 0) (consA (op2 ixD (lstE false (consA (cE (.int 9)) (consA (cE (.int 3)) nilA))) (cllE Fn.g_law_next 2 (consA (vE 0) (consA (cE (.int 2)) nilA)))) nilA)))) (consA (op2 (addD false) (cE (.int 1)) (cllE Fn.g_law_next 2 (consA (vE 0) (consA (cE (.int 9)) nilA)))) nilA))))
noncomputable def g_law_scale : FF := sealed (fnF 1 true (b_law_scale))
theorem e_law_scale : g_law_scale = fnF 1 true (b_law_scale) := sealed_eq _
/-! law_row: 0 _law_h, 1 _law_letters_here, 2 _law_most, 3 _law_k -/
noncomputable def b_law_row : FS :=
  (retS (mth1 joinD (cE (.str [])) (lcE false (rng1I (consA (cllE Fn.g_law_next 2 (consA (vE 0) (consA (op2 (addD false) (vE 2) (cE (.int 1))) nilA))) nilA)) (nameG 3) yesT (op2 ixD (vE 1) (cllE Fn.g_law_next 2 (consA (vE 0) (consA (callE lenD (consA (vE 1) nilA)) nilA)))) [3])))
noncomputable def g_law_row : FF := sealed (fnF 4 true (b_law_row))
theorem e_law_row : g_law_row = fnF 4 true (b_law_row) := sealed_eq _
/-! law_lane: 0 _law_one, 1 _law_other, 2 _law_shift, 3 _law_places, 4 _law_likes, 5 _law_p -/
noncomputable def b_law_lane : FS :=
  (seqS (asgS (lcE false (rng1I (consA (callE lenD (consA (vE 0) nilA)) nilA)) (nameG 5) (toB (chE leD ltD (cE (.int 0)) (op2 (addD false) (vE 5) (vE 2)) (callE lenD (consA (vE 1) nilA)))) (vE 5) [5]) (nameG 3))
  (seqS (asgS (mth1 joinD (cE (.str [])) (lcE false (listI (vE 3)) (nameG 5) yesT (op2 ixD (cE (.str [47, 61])) (callE intD (consA (op2 eqD (op2 ixD (vE 0) (vE 5)) (op2 ixD (vE 1) (op2 (addD false) (vE 5) (vE 2)))) nilA))) [5])) (nameG 4))
  (retS (tupE (consA (vE 4) (consA (ifE (toB (op2 neD (vE 3) (lstE false nilA))) (op2 ixD (vE 3) (cE (.int 0))) (cE (.int 0))) nilA))))))
noncomputable def g_law_lane : FF := sealed (fnF 6 true (b_law_lane))
theorem e_law_lane : g_law_lane = fnF 6 true (b_law_lane) := sealed_eq _
/-! law_same: 0 _law_found, 1 _law_due, 2 _law_k -/
noncomputable def b_law_same (g_rec : FF) : FS :=
  (seqS (ifS (toB (callE isiF (consA (vE 1) (consA (tupE (consA (cE (.ty "list")) (consA (cE (.ty "tuple")) nilA))) nilA))))
  (seqS (ifS (orT (toB (op2 neD (callE isiF (consA (vE 0) (consA (cE (.ty "list")) nilA))) (callE isiF (consA (vE 1) (consA (cE (.ty "list")) nilA))))) (toB (op2 neD (callE isiF (consA (vE 0) (consA (cE (.ty "tuple")) nilA))) (callE isiF (consA (vE 1) (consA (cE (.ty "tuple")) nilA))))))
  (retS (cE (.bl false)))
  nilS)
  (seqS (ifS (toB (op2 neD (callE lenD (consA (vE 0) nilA)) (callE lenD (consA (vE 1) nilA))))
  (retS (cE (.bl false)))
  nilS)
  (seqS (forS (rng1I (consA (callE lenD (consA (vE 1) nilA)) nilA)) (nameG 2)
  (ifS (notT (toB (cllE g_rec 2 (consA (op2 ixD (vE 0) (vE 2)) (consA (op2 ixD (vE 1) (vE 2)) nilA)))))
  (retS (cE (.bl false)))
  nilS))
  (retS (cE (.bl true))))))
  nilS)
  (seqS (ifS (toB (callE isiF (consA (vE 1) (consA (cE (.ty "str")) nilA))))
  (retS (andE (callE isiF (consA (vE 0) (consA (cE (.ty "str")) nilA))) (op2 eqD (vE 0) (vE 1))))
  nilS)
  (retS (andE (callE isiF (consA (vE 0) (consA (cE (.ty "int")) nilA))) (andE (op2 eqD (callE isiF (consA (vE 0) (consA (cE (.ty "bool")) nilA))) (callE isiF (consA (vE 1) (consA (cE (.ty "bool")) nilA)))) (op2 eqD (vE 0) (vE 1)))))))
noncomputable def g_law_same : Nat → FF
  | 0 => fun _ _ => .bad
  | n + 1 => sealed (fnF 3 true (b_law_same (g_law_same n)))
theorem e_law_same (n : Nat) : g_law_same (n + 1) = fnF 3 true (b_law_same (g_law_same n)) := sealed_eq _
/-! law_near: 0 _law_h, 1 _law_row_here, 2 _law_letters_here, 3 _law_found, 4 _law_keep, 5 _law_sign, 6 _law_way -/
noncomputable def b_law_near : FS :=
  (seqS (asgS (cllE Fn.g_law_row 3 (consA (vE 0) (consA (vE 2) (consA (cE (.int 6)) nilA)))) (nameG 3))
  (seqS (asgS (op2 (addD false) (cE (.int 2)) (cllE Fn.g_law_next 2 (consA (vE 0) (consA (cE (.int 12)) nilA)))) (nameG 4))
  (seqS (forS (strI (vE 1)) (nameG 5)
  (seqS (asgS (cllE Fn.g_law_next 2 (consA (vE 0) (consA (vE 4) nilA))) (nameG 6))
  (ifS (toB (op2 gtD (vE 6) (cE (.int 0))))
  (asgS (op2 (addD false) (vE 3) (vE 5)) (nameG 3))
  (ifS (toB (op2 gtD (cllE Fn.g_law_next 2 (consA (vE 0) (consA (cE (.int 3)) nilA))) (cE (.int 0))))
  (asgS (op2 (addD false) (vE 3) (op2 ixD (vE 2) (cllE Fn.g_law_next 2 (consA (vE 0) (consA (callE lenD (consA (vE 2) nilA)) nilA))))) (nameG 3))
  nilS))))
  (retS (slE false (op2 (addD false) (vE 3) (cllE Fn.g_law_row 3 (consA (vE 0) (consA (vE 2) (consA (cE (.int 6)) nilA))))) noO (someO (cE (.int 60))))))))
noncomputable def g_law_near : FF := sealed (fnF 7 true (b_law_near))
theorem e_law_near : g_law_near = fnF 7 true (b_law_near) := sealed_eq _
/-! worth_of: 0 likes, 1 scale -/
noncomputable def b_worth_of : FS :=
  (retS (op2 subD (op2 mulD (op2 ixD (vE 1) (cE (.int 0))) (mth1 countD (vE 0) (cE (.str [61])))) (op2 mulD (op2 ixD (vE 1) (cE (.int 1))) (mth1 countD (vE 0) (cE (.str [47]))))))
noncomputable def g_worth_of : FF := sealed (fnF 2 true (b_worth_of))
theorem e_worth_of : g_worth_of = fnF 2 true (b_worth_of) := sealed_eq _
/-! lane_bounds: 0 one, 1 other, 2 shift -/
noncomputable def b_lane_bounds : FS :=
  (retS (tupE (consA (callE max2D (consA (cE (.int 0)) (consA (op2 subD (cE (.int 0)) (vE 2)) nilA))) (consA (callE min2D (consA (callE lenD (consA (vE 0) nilA)) (consA (op2 subD (callE lenD (consA (vE 1) nilA)) (vE 2)) nilA))) nilA))))
noncomputable def g_lane_bounds : FF := sealed (fnF 3 true (b_lane_bounds))
theorem e_lane_bounds : g_lane_bounds = fnF 3 true (b_lane_bounds) := sealed_eq _
/-! likes_of: 0 one, 1 other, 2 shift, 3 begin, 4 end, 5 place -/
noncomputable def b_likes_of : FS :=
  (seqS (asgS (cllE Fn.g_lane_bounds 3 (consA (vE 0) (consA (vE 1) (consA (vE 2) nilA)))) (tupG 2 (consG (nameG 3) (consG (nameG 4) nilG))))
  (retS (mth1 joinD (cE (.str [])) (lcE false (rng2I (consA (vE 3) (consA (vE 4) nilA))) (nameG 5) yesT (ifE (toB (op2 eqD (op2 ixD (vE 0) (vE 5)) (op2 ixD (vE 1) (op2 (addD false) (vE 5) (vE 2))))) (cE (.str [61])) (cE (.str [47]))) [5]))))
noncomputable def g_likes_of : FF := sealed (fnF 6 true (b_likes_of))
theorem e_likes_of : g_likes_of = fnF 6 true (b_likes_of) := sealed_eq _
/-! law_worth: 0 _law_likes, 1 _law_scale_here, 2 _law_found, 3 _law_sign -/
noncomputable def b_law_worth : FS :=
  (seqS (asgS (cE (.int 0)) (nameG 2))
  (seqS (forS (strI (vE 0)) (nameG 3)
  (asgS (ifE (toB (op2 eqD (vE 3) (cE (.str [61])))) (op2 (addD false) (vE 2) (op2 ixD (vE 1) (cE (.int 0)))) (op2 subD (vE 2) (op2 ixD (vE 1) (cE (.int 1))))) (nameG 2)))
  (retS (vE 2))))
noncomputable def g_law_worth : FF := sealed (fnF 4 true (b_law_worth))
theorem e_law_worth : g_law_worth = fnF 4 true (b_law_worth) := sealed_eq _
/-! k01_law: 0 _law_script, 1 _law_h, 2 _law_letters_here, 3 _law_scale_here, 4 _law_one, 5 _law_other, 6 _law_turn, 7 _law_shift, 8 _law_at, 9 _law_likes, 10 _law_ahead -/
noncomputable def b_k01_law : FS :=
  (seqS (asgS (lstE true (consA (cE (.int 11)) (consA (callE (listD true) (consA (vE 0) nilA)) (consA (cE (.int 0)) nilA)))) (nameG 1))
  (seqS (asgS (cllE Fn.g_law_letters 1 (consA (vE 1) nilA)) (nameG 2))
  (seqS (asgS (cllE Fn.g_law_scale 1 (consA (vE 1) nilA)) (nameG 3))
  (seqS (asgS (cllE Fn.g_law_row 3 (consA (vE 1) (consA (vE 2) (consA (cE (.int 60)) nilA)))) (nameG 4))
  (seqS (asgS (op2 ixD (lstE false (consA (cllE Fn.g_law_row 3 (consA (vE 1) (consA (vE 2) (consA (cE (.int 60)) nilA)))) (consA (cllE Fn.g_law_near 3 (consA (vE 1) (consA (vE 4) (consA (vE 2) nilA)))) nilA))) (cllE Fn.g_law_next 2 (consA (vE 1) (consA (cE (.int 2)) nilA)))) (nameG 5))
  (seqS (forS (rng1I (consA (cE (.int 6)) nilA)) (nameG 6)
  (seqS (asgS (ifE (toB (op2 ltD (vE 6) (cE (.int 3)))) (op2 subD (cllE Fn.g_law_next 2 (consA (vE 1) (consA (cE (.int 141)) nilA))) (cE (.int 70))) (op2 subD (cllE Fn.g_law_next 2 (consA (vE 1) (consA (cE (.int 15)) nilA))) (cE (.int 7)))) (nameG 7))
  (seqS (asgS (cllE Fn.g_law_lane 3 (consA (vE 4) (consA (vE 5) (consA (vE 7) nilA)))) (tupG 2 (consG (nameG 9) (consG (nameG 10) nilG))))
  (seqS (ifS (notT (toB (cllE (Fn.g_law_same 8) 2 (consA (cllE Fn.g_likes_of 3 (consA (vE 4) (consA (vE 5) (consA (vE 7) nilA)))) (consA (vE 9) nilA)))))
  (retS (cE (.bl false)))
  nilS)
  (seqS (asgS (cllE Fn.g_law_next 2 (consA (vE 1) (consA (op2 (addD false) (callE lenD (consA (vE 9) nilA)) (cE (.int 1))) nilA))) (nameG 8))
  (ifS (notT (toB (cllE (Fn.g_law_same 8) 2 (consA (cllE Fn.g_worth_of 2 (consA (slE false (vE 9) (someO (vE 8)) noO) (consA (vE 3) nilA))) (consA (cllE Fn.g_law_worth 2 (consA (slE false (vE 9) (someO (vE 8)) noO) (consA (vE 3) nilA))) nilA)))))
  (retS (cE (.bl false)))
  nilS))))))
  (retS (andE (cllE (Fn.g_law_same 8) 2 (consA (cllE Fn.g_worth_of 2 (consA (cE (.str [])) (consA (vE 3) nilA))) (consA (cE (.int 0)) nilA))) (cllE (Fn.g_law_same 8) 2 (consA (cllE Fn.g_likes_of 3 (consA (cE (.str [])) (consA (vE 4) (consA (cE (.int 0)) nilA)))) (consA (cE (.str [])) nilA)))))))))))
noncomputable def g_k01_law : FF := sealed (fnF 11 false (b_k01_law))
theorem e_k01_law : g_k01_law = fnF 11 false (b_k01_law) := sealed_eq _
/-! law_seed: 0 _law_h, 1 _law_most, 2 _law_size, 3 _law_k -/
noncomputable def b_law_seed : FS :=
  (seqS (asgS (op2 (addD false) (cE (.int 1)) (cllE Fn.g_law_next 2 (consA (vE 0) (consA (vE 1) nilA)))) (nameG 2))
  (seqS (ifS (toB (op2 eqD (vE 2) (cE (.int 1))))
  (retS (cE (.str [35])))
  nilS)
  (retS (op2 (addD false) (op2 (addD false) (cE (.str [35])) (mth1 joinD (cE (.str [])) (lcE false (rng1I (consA (op2 subD (vE 2) (cE (.int 2))) nilA)) (nameG 3) yesT (op2 ixD (cE (.str [35, 45])) (cllE Fn.g_law_next 2 (consA (vE 0) (consA (cE (.int 2)) nilA)))) [3]))) (cE (.str [35]))))))
noncomputable def g_law_seed : FF := sealed (fnF 4 true (b_law_seed))
theorem e_law_seed : g_law_seed = fnF 4 true (b_law_seed) := sealed_eq _
/-! law_seeds: 0 _law_h, 1 _law_most, 2 _law_k -/
noncomputable def b_law_seeds : FS :=
  (retS (lcE false (rng1I (consA (op2 (addD false) (cE (.int 1)) (cllE Fn.g_law_next 2 (consA (vE 0) (consA (cE (.int 3)) nilA)))) nilA)) (nameG 2) yesT (cllE Fn.g_law_seed 2 (consA (vE 0) (consA (vE 1) nilA))) [2]))
noncomputable def g_law_seeds : FF := sealed (fnF 3 true (b_law_seeds))
theorem e_law_seeds : g_law_seeds = fnF 3 true (b_law_seeds) := sealed_eq _
/-! law_likes: 0 _law_h, 1 _law_most, 2 _law_way, 3 _law_k -/
noncomputable def b_law_likes : FS :=
  (seqS (asgS (op2 (addD false) (cE (.int 1)) (cllE Fn.g_law_next 2 (consA (vE 0) (consA (cE (.int 5)) nilA)))) (nameG 2))
  (retS (mth1 joinD (cE (.str [])) (lcE false (rng1I (consA (cllE Fn.g_law_next 2 (consA (vE 0) (consA (op2 (addD false) (vE 1) (cE (.int 1))) nilA))) nilA)) (nameG 3) yesT (ifE (toB (op2 eqD (cllE Fn.g_law_next 2 (consA (vE 0) (consA (op2 (addD false) (vE 2) (cE (.int 1))) nilA))) (cE (.int 0)))) (cE (.str [47])) (cE (.str [61]))) [3]))))
noncomputable def g_law_likes : FF := sealed (fnF 4 true (b_law_likes))
theorem e_law_likes : g_law_likes = fnF 4 true (b_law_likes) := sealed_eq _
/-! fits: 0 seed, 1 likes, 2 place, 3 k -/
noncomputable def b_fits : FS :=
  (seqS (ifS (orT (toB (op2 ltD (vE 2) (cE (.int 0)))) (toB (op2 gtD (op2 (addD false) (vE 2) (callE lenD (consA (vE 0) nilA))) (callE lenD (consA (vE 1) nilA)))))
  (retS (cE (.bl false)))
  nilS)
  (seqS (forS (rng1I (consA (callE lenD (consA (vE 0) nilA)) nilA)) (nameG 3)
  (ifS (andT (toB (op2 eqD (op2 ixD (vE 0) (vE 3)) (cE (.str [35])))) (toB (op2 neD (op2 ixD (vE 1) (op2 (addD false) (vE 2) (vE 3))) (cE (.str [61])))))
  (retS (cE (.bl false)))
  nilS))
  (retS (cE (.bl true)))))
noncomputable def g_fits : FF := sealed (fnF 4 true (b_fits))
theorem e_fits : g_fits = fnF 4 true (b_fits) := sealed_eq _
/-! is_seeded: 0 seeds, 1 likes, 2 seed, 3 place -/
noncomputable def b_is_seeded : FS :=
  (seqS (forS (listI (vE 0)) (nameG 2)
  (forS (rng1I (consA (callE lenD (consA (vE 1) nilA)) nilA)) (nameG 3)
  (ifS (toB (cllE Fn.g_fits 3 (consA (vE 2) (consA (vE 1) (consA (vE 3) nilA)))))
  (retS (cE (.bl true)))
  nilS)))
  (retS (cE (.bl false))))
noncomputable def g_is_seeded : FF := sealed (fnF 4 true (b_is_seeded))
theorem e_is_seeded : g_is_seeded = fnF 4 true (b_is_seeded) := sealed_eq _
/-! law_fits: 0 _law_seed_here, 1 _law_likes_here, 2 _law_place, 3 _law_k -/
noncomputable def b_law_fits : FS :=
  (seqS (ifS (orT (toB (op2 ltD (vE 2) (cE (.int 0)))) (toB (op2 gtD (op2 (addD false) (vE 2) (callE lenD (consA (vE 0) nilA))) (callE lenD (consA (vE 1) nilA)))))
  (retS (cE (.bl false)))
  nilS)
  (retS (op2 eqD (lcE false (rng1I (consA (callE lenD (consA (vE 0) nilA)) nilA)) (nameG 3) (andT (toB (op2 eqD (op2 ixD (vE 0) (vE 3)) (cE (.str [35])))) (toB (op2 eqD (op2 ixD (vE 1) (op2 (addD false) (vE 2) (vE 3))) (cE (.str [47]))))) (vE 3) [3]) (lstE false nilA))))
noncomputable def g_law_fits : FF := sealed (fnF 4 true (b_law_fits))
theorem e_law_fits : g_law_fits = fnF 4 true (b_law_fits) := sealed_eq _
/-! law_seeded: 0 _law_seeds_here, 1 _law_likes_here, 2 _law_seed_here, 3 _law_place -/
noncomputable def b_law_seeded : FS :=
  (seqS (forS (listI (vE 0)) (nameG 2)
  (ifS (toB (op2 neD (lcE false (rng1I (consA (callE lenD (consA (vE 1) nilA)) nilA)) (nameG 3) (toB (cllE Fn.g_law_fits 3 (consA (vE 2) (consA (vE 1) (consA (vE 3) nilA))))) (vE 3) [3]) (lstE false nilA)))
  (retS (cE (.bl true)))
  nilS))
  (retS (cE (.bl false))))
noncomputable def g_law_seeded : FF := sealed (fnF 4 true (b_law_seeded))
theorem e_law_seeded : g_law_seeded = fnF 4 true (b_law_seeded) := sealed_eq _
/-! k05_law: 0 _law_script, 1 _law_h, 2 _law_turn, 3 _law_seeds_here, 4 _law_likes_here, 5 _law_handed, 6 _law_seed_here, 7 _law_place -/
noncomputable def b_k05_law : FS :=
  (seqS (asgS (lstE true (consA (cE (.int 23)) (consA (callE (listD true) (consA (vE 0) nilA)) (consA (cE (.int 0)) nilA)))) (nameG 1))
  (seqS (forS (rng1I (consA (cE (.int 3)) nilA)) (nameG 2)
  (seqS (asgS (cllE Fn.g_law_seeds 2 (consA (vE 1) (consA (cE (.int 8)) nilA))) (nameG 3))
  (seqS (asgS (cllE Fn.g_law_likes 2 (consA (vE 1) (consA (cE (.int 30)) nilA))) (nameG 4))
  (seqS (asgS (callE (listD false) (consA (vE 3) nilA)) (nameG 5))
  (seqS (forS (listI (vE 3)) (nameG 6)
  (forS (rng2I (consA (op1 negD (cE (.int 2))) (consA (op2 (addD false) (callE lenD (consA (vE 4) nilA)) (cE (.int 3))) nilA))) (nameG 7)
  (ifS (notT (toB (cllE (Fn.g_law_same 8) 2 (consA (cllE Fn.g_fits 3 (consA (vE 6) (consA (vE 4) (consA (vE 7) nilA)))) (consA (cllE Fn.g_law_fits 3 (consA (vE 6) (consA (vE 4) (consA (vE 7) nilA)))) nilA)))))
  (retS (cE (.bl false)))
  nilS)))
  (ifS (orT (notT (toB (cllE (Fn.g_law_same 8) 2 (consA (cllE Fn.g_is_seeded 2 (consA (vE 5) (consA (vE 4) nilA))) (consA (cllE Fn.g_law_seeded 2 (consA (vE 3) (consA (vE 4) nilA))) nilA))))) (toB (op2 neD (vE 5) (vE 3))))
  (retS (cE (.bl false)))
  nilS))))))
  (retS (andE (op2 isBlD (cllE Fn.g_fits 3 (consA (cE (.str [35])) (consA (cE (.str [])) (consA (cE (.int 0)) nilA)))) (cE (.bl false))) (op2 isBlD (cllE Fn.g_is_seeded 2 (consA (lstE false (consA (cE (.str [35])) nilA)) (consA (cE (.str [])) nilA))) (cE (.bl false)))))))
noncomputable def g_k05_law : FF := sealed (fnF 8 false (b_k05_law))
theorem e_k05_law : g_k05_law = fnF 8 false (b_k05_law) := sealed_eq _
/-! Run_init: 0 self, 1 begin, 2 end, 3 low, 4 high -/
noncomputable def b_Run_init (c : CC) : FS :=
  (seqS (fldS c.Run "begin" (vE 1) (vE 0))
  (seqS (fldS c.Run "end" (vE 2) (vE 0))
  (seqS (fldS c.Run "low" (vE 3) (vE 0))
  (fldS c.Run "high" (vE 4) (vE 0)))))
noncomputable def g_Run_init (c : CC) : FF := sealed (fnF 5 false (b_Run_init c))
theorem e_Run_init (c : CC) : g_Run_init c = fnF 5 false (b_Run_init c) := sealed_eq _
/-! joined: 0 runs, 1 new, 2 places, 3 elder, 4 k -/
noncomputable def b_joined (c : CC) : FS :=
  (whileS (toB (cE (.bl true)))
  (seqS (asgS (lcE false (rng1I (consA (callE lenD (consA (vE 0) nilA)) nilA)) (nameG 4) (toB (op2 ltD (op1 (fldD c.Run "low") (op2 ixD (vE 0) (vE 4))) (op1 (fldD c.Run "low") (vE 1)))) (vE 4) [4]) (nameG 2))
  (seqS (ifS (orT (toB (op2 eqD (vE 2) (lstE false nilA))) (toB (op2 geD (op1 (fldD c.Run "high") (op2 ixD (vE 0) (op2 ixD (vE 2) (op1 negD (cE (.int 1)))))) (op1 (fldD c.Run "high") (vE 1)))))
  (retS (op2 (addD false) (vE 0) (lstE false (consA (vE 1) nilA))))
  nilS)
  (seqS (asgS (op2 ixD (vE 0) (op2 ixD (vE 2) (op1 negD (cE (.int 1))))) (nameG 3))
  (seqS (asgS (frzE (makeE c.Run (Fn.g_Run_init c) 5 (consA (op1 (fldD c.Run "begin") (vE 3)) (consA (op1 (fldD c.Run "end") (vE 1)) (consA (op1 (fldD c.Run "low") (vE 3)) (consA (op1 (fldD c.Run "high") (vE 1)) nilA)))))) (nameG 1))
  (asgS (slE false (vE 0) noO (someO (op2 ixD (vE 2) (op1 negD (cE (.int 1)))))) (nameG 0)))))))
noncomputable def g_joined (c : CC) : FF := sealed (fnF 5 true (b_joined c))
theorem e_joined (c : CC) : g_joined c = fnF 5 true (b_joined c) := sealed_eq _
/-! ripe: 0 likes, 1 scale, 2 runs, 3 total, 4 place, 5 run -/
noncomputable def b_ripe (c : CC) : FS :=
  (seqS (asgS (lstE false nilA) (nameG 2))
  (seqS (asgS (cE (.int 0)) (nameG 3))
  (seqS (forS (rng1I (consA (callE lenD (consA (vE 0) nilA)) nilA)) (nameG 4)
  (ifS (toB (op2 eqD (op2 ixD (vE 0) (vE 4)) (cE (.str [61]))))
  (seqS (asgS (cllE (Fn.g_joined c) 2 (consA (vE 2) (consA (frzE (makeE c.Run (Fn.g_Run_init c) 5 (consA (vE 4) (consA (op2 (addD false) (vE 4) (cE (.int 1))) (consA (vE 3) (consA (op2 (addD false) (vE 3) (op2 ixD (vE 1) (cE (.int 0)))) nilA)))))) nilA))) (nameG 2))
  (asgS (op2 (addD false) (vE 3) (op2 ixD (vE 1) (cE (.int 0)))) (nameG 3)))
  (asgS (op2 subD (vE 3) (op2 ixD (vE 1) (cE (.int 1)))) (nameG 3))))
  (retS (lcE false (listI (vE 2)) (nameG 5) yesT (tupE (consA (op1 (fldD c.Run "begin") (vE 5)) (consA (op1 (fldD c.Run "end") (vE 5)) nilA))) [5])))))
noncomputable def g_ripe (c : CC) : FF := sealed (fnF 6 true (b_ripe c))
theorem e_ripe (c : CC) : g_ripe c = fnF 6 true (b_ripe c) := sealed_eq _
/-! law_stands_by_itself: 0 _law_likes_here, 1 _law_scale_here, 2 _law_begin, 3 _law_end, 4 _law_worth_here, 5 _law_low, 6 _law_high -/
noncomputable def b_law_stands_by_itself : FS :=
  (seqS (asgS (cllE Fn.g_law_worth 2 (consA (slE false (vE 0) (someO (vE 2)) (someO (vE 3))) (consA (vE 1) nilA))) (nameG 4))
  (seqS (ifS (toB (op2 leD (vE 4) (cE (.int 0))))
  (retS (cE (.bl false)))
  nilS)
  (seqS (forS (rng2I (consA (vE 2) (consA (vE 3) nilA))) (nameG 5)
  (forS (rng2I (consA (op2 (addD false) (vE 5) (cE (.int 1))) (consA (op2 (addD false) (vE 3) (cE (.int 1))) nilA))) (nameG 6)
  (ifS (andT (toB (op2 neD (tupE (consA (vE 5) (consA (vE 6) nilA))) (tupE (consA (vE 2) (consA (vE 3) nilA))))) (toB (op2 geD (cllE Fn.g_law_worth 2 (consA (slE false (vE 0) (someO (vE 5)) (someO (vE 6))) (consA (vE 1) nilA))) (vE 4))))
  (retS (cE (.bl false)))
  nilS)))
  (retS (cE (.bl true))))))
noncomputable def g_law_stands_by_itself : FF := sealed (fnF 7 true (b_law_stands_by_itself))
theorem e_law_stands_by_itself : g_law_stands_by_itself = fnF 7 true (b_law_stands_by_itself) := sealed_eq _
/-! ripe_2: 0 likes, 1 scale, 2 runs, 3 total, 4 place, 5 run -/
noncomputable def b_ripe_2 (c : CC) : FS :=
  (seqS (asgS (lstE false nilA) (nameG 2))
  (seqS (asgS (cE (.int 0)) (nameG 3))
  (seqS (forS (rng1I (consA (callE lenD (consA (vE 0) nilA)) nilA)) (nameG 4)
  (ifS (toB (op2 eqD (op2 ixD (vE 0) (vE 4)) (cE (.str [61]))))
  (seqS (asgS (cllE (Fn.g_joined c) 2 (consA (vE 2) (consA (frzE (makeE c.Run (Fn.g_Run_init c) 5 (consA (vE 4) (consA (op2 (addD false) (vE 4) (cE (.int 1))) (consA (vE 3) (consA (op2 (addD false) (vE 3) (op2 ixD (vE 1) (cE (.int 0)))) nilA)))))) nilA))) (nameG 2))
  (asgS (op2 (addD false) (vE 3) (op2 ixD (vE 1) (cE (.int 0)))) (nameG 3)))
  (asgS (op2 subD (vE 3) (op2 ixD (vE 1) (cE (.int 1)))) (nameG 3))))
  (retS (lcE true (listI (vE 2)) (nameG 5) yesT (tupE (consA (op1 (fldD c.Run "begin") (vE 5)) (consA (op1 (fldD c.Run "end") (vE 5)) nilA))) [5])))))
noncomputable def g_ripe_2 (c : CC) : FF := sealed (fnO 6 (b_ripe_2 c))
theorem e_ripe_2 (c : CC) : g_ripe_2 c = fnO 6 (b_ripe_2 c) := sealed_eq _
/-! k02_law: 0 _law_script, 1 _law_h, 2 _law_turn, 3 _law_likes_here, 4 _law_scale_here, 5 _law_stands, 6 _law_begin, 7 _law_due, 8 _law_found, 9 _law_end, 10 _law_b, 11 _law_e -/
noncomputable def b_k02_law (c : CC) : FS :=
  (seqS (asgS (lstE true (consA (cE (.int 13)) (consA (callE (listD true) (consA (vE 0) nilA)) (consA (cE (.int 0)) nilA)))) (nameG 1))
  (seqS (forS (rng1I (consA (cE (.int 3)) nilA)) (nameG 2)
  (seqS (asgS (cllE Fn.g_law_likes 2 (consA (vE 1) (consA (op2 ixD (lstE false (consA (cE (.int 8)) (consA (cE (.int 14)) (consA (cE (.int 24)) nilA)))) (vE 2)) nilA))) (nameG 3))
  (seqS (asgS (cllE Fn.g_law_scale 1 (consA (vE 1) nilA)) (nameG 4))
  (seqS (ifS (toB (op2 eqD (cllE Fn.g_law_next 2 (consA (vE 1) (consA (cE (.int 3)) nilA))) (cE (.int 0))))
  (asgS (tupE (consA (op2 ixD (vE 4) (cE (.int 0))) (consA (op2 ixD (vE 4) (cE (.int 0))) nilA))) (nameG 4))
  nilS)
  (seqS (asgS (lstE true nilA) (nameG 5))
  (seqS (forS (rng1I (consA (callE lenD (consA (vE 3) nilA)) nilA)) (nameG 6)
  (forS (rng2I (consA (op2 (addD false) (vE 6) (cE (.int 1))) (consA (op2 (addD false) (callE lenD (consA (vE 3) nilA)) (cE (.int 1))) nilA))) (nameG 9)
  (ifS (toB (cllE Fn.g_law_stands_by_itself 4 (consA (vE 3) (consA (vE 4) (consA (vE 6) (consA (vE 9) nilA))))))
  (dropS (mthL appendD (vE 5) (consA (tupE (consA (vE 6) (consA (vE 9) nilA))) nilA)))
  nilS)))
  (seqS (asgS (lstE true nilA) (nameG 7))
  (seqS (forS (listI (vE 5)) (tupG 2 (consG (nameG 6) (consG (nameG 9) nilG)))
  (ifS (toB (op2 eqD (lcE false (listI (vE 5)) (tupG 2 (consG (nameG 10) (consG (nameG 11) nilG))) (andT (toB (op2 leD (vE 10) (vE 6))) (andT (toB (op2 leD (vE 9) (vE 11))) (toB (op2 neD (tupE (consA (vE 10) (consA (vE 11) nilA))) (tupE (consA (vE 6) (consA (vE 9) nilA))))))) (cE (.int 1)) [10, 11]) (lstE false nilA)))
  (dropS (mthL appendD (vE 7) (consA (tupE (consA (vE 6) (consA (vE 9) nilA))) nilA)))
  nilS))
  (seqS (asgS (cllE (Fn.g_ripe_2 c) 2 (consA (vE 3) (consA (vE 4) nilA))) (nameG 8))
  (seqS (ifS (notT (toB (cllE (Fn.g_law_same 8) 2 (consA (vE 8) (consA (vE 7) nilA)))))
  (retS (cE (.bl false)))
  nilS)
  (seqS (dropS (mthL appendD (vE 8) (consA (tupE (consA (cE (.int 0)) (consA (cE (.int 0)) nilA))) nilA)))
  (ifS (notT (toB (cllE (Fn.g_law_same 8) 2 (consA (cllE (Fn.g_ripe_2 c) 2 (consA (vE 3) (consA (vE 4) nilA))) (consA (vE 7) nilA)))))
  (retS (cE (.bl false)))
  nilS))))))))))))
  (retS (op2 eqD (cllE (Fn.g_ripe_2 c) 2 (consA (cE (.str [])) (consA (tupE (consA (cE (.int 1)) (consA (cE (.int 1)) nilA))) nilA))) (lstE false nilA)))))
noncomputable def g_k02_law (c : CC) : FF := sealed (fnF 12 false (b_k02_law c))
theorem e_k02_law (c : CC) : g_k02_law c = fnF 12 false (b_k02_law c) := sealed_eq _
/-! law_stands: 0 _law_likes, 1 _law_scale_here, 2 _law_found, 3 _law_begin, 4 _law_low, 5 _law_total, 6 _law_end -/
noncomputable def b_law_stands : FS :=
  (seqS (asgS (lstE true nilA) (nameG 2))
  (seqS (forS (rng1I (consA (callE lenD (consA (vE 0) nilA)) nilA)) (nameG 3)
  (seqS (asgS (cE (.int 0)) (nameG 4))
  (seqS (asgS (cE (.int 0)) (nameG 5))
  (forS (rng2I (consA (op2 (addD false) (vE 3) (cE (.int 1))) (consA (op2 (addD false) (callE lenD (consA (vE 0) nilA)) (cE (.int 1))) nilA))) (nameG 6)
  (seqS (asgS (ifE (toB (op2 eqD (op2 ixD (vE 0) (op2 subD (vE 6) (cE (.int 1)))) (cE (.str [61])))) (op2 (addD false) (vE 5) (op2 ixD (vE 1) (cE (.int 0)))) (op2 subD (vE 5) (op2 ixD (vE 1) (cE (.int 1))))) (nameG 5))
  (seqS (ifS (toB (op2 leD (vE 5) (cE (.int 0))))
  brkS
  nilS)
  (ifS (toB (op2 gtD (vE 5) (vE 4)))
  (seqS (dropS (mthL appendD (vE 2) (consA (tupE (consA (vE 3) (consA (vE 6) nilA))) nilA)))
  (asgS (vE 5) (nameG 4)))
  nilS)))))))
  (retS (frzE (vE 2)))))
noncomputable def g_law_stands : FF := sealed (fnF 7 true (b_law_stands))
theorem e_law_stands : g_law_stands = fnF 7 true (b_law_stands) := sealed_eq _
/-! law_holds_all: 0 _law_likes, 1 _law_scale_here, 2 _law_found, 3 _law_last, 4 _law_best, 5 _law_low, 6 _law_total, 7 _law_sign, 8 _law_begin, 9 _law_end, 10 _law_at, 11 _law_b, 12 _law_e -/
noncomputable def b_law_holds_all : FS :=
  (seqS (asgS (cE (.int 0)) (nameG 3))
  (seqS (asgS (cE (.int 0)) (nameG 4))
  (seqS (forS (listI (vE 2)) (tupG 2 (consG (nameG 8) (consG (nameG 9) nilG)))
  (seqS (ifS (notT (ch3T leD ltD leD (vE 3) (vE 8) (vE 9) (callE lenD (consA (vE 0) nilA))))
  (retS (cE (.bl false)))
  nilS)
  (seqS (asgS (vE 9) (nameG 3))
  (seqS (asgS (callE max2D (consA (vE 4) (consA (cllE Fn.g_law_worth 2 (consA (slE false (vE 0) (someO (vE 8)) (someO (vE 9))) (consA (vE 1) nilA))) nilA))) (nameG 4))
  (forS (rng2I (consA (op2 (addD false) (vE 8) (cE (.int 1))) (consA (vE 9) nilA))) (nameG 10)
  (ifS (orT (toB (op2 leD (cllE Fn.g_law_worth 2 (consA (slE false (vE 0) (someO (vE 8)) (someO (vE 10))) (consA (vE 1) nilA))) (cE (.int 0)))) (toB (op2 leD (cllE Fn.g_law_worth 2 (consA (slE false (vE 0) (someO (vE 10)) (someO (vE 9))) (consA (vE 1) nilA))) (cE (.int 0)))))
  (retS (cE (.bl false)))
  nilS))))))
  (seqS (forS (listI (cllE Fn.g_law_stands 2 (consA (vE 0) (consA (vE 1) nilA)))) (tupG 2 (consG (nameG 8) (consG (nameG 9) nilG)))
  (ifS (toB (op2 eqD (lcE false (listI (vE 2)) (tupG 2 (consG (nameG 11) (consG (nameG 12) nilG))) (andT (toB (op2 leD (vE 11) (vE 8))) (toB (op2 leD (vE 9) (vE 12)))) (cE (.int 1)) [11, 12]) (lstE false nilA)))
  (retS (cE (.bl false)))
  nilS))
  (seqS (asgS (cE (.int 0)) (nameG 5))
  (seqS (asgS (cE (.int 0)) (nameG 6))
  (seqS (forS (strI (vE 0)) (nameG 7)
  (seqS (asgS (op2 (addD false) (vE 6) (cllE Fn.g_law_worth 2 (consA (vE 7) (consA (vE 1) nilA)))) (nameG 6))
  (seqS (ifS (toB (op2 gtD (op2 subD (vE 6) (vE 5)) (vE 4)))
  (retS (cE (.bl false)))
  nilS)
  (asgS (callE min2D (consA (vE 5) (consA (vE 6) nilA))) (nameG 5)))))
  (retS (cE (.bl true))))))))))
noncomputable def g_law_holds_all : FF := sealed (fnF 13 true (b_law_holds_all))
theorem e_law_holds_all : g_law_holds_all = fnF 13 true (b_law_holds_all) := sealed_eq _
/-! k04_law: 0 _law_script, 1 _law_h, 2 _law_letters_here, 3 _law_scale_here, 4 _law_one, 5 _law_other, 6 _law_turn, 7 _law_shift, 8 _law_likes -/
noncomputable def b_k04_law (c : CC) : FS :=
  (seqS (asgS (lstE true (consA (cE (.int 19)) (consA (callE (listD true) (consA (vE 0) nilA)) (consA (cE (.int 0)) nilA)))) (nameG 1))
  (seqS (asgS (cllE Fn.g_law_letters 1 (consA (vE 1) nilA)) (nameG 2))
  (seqS (asgS (cllE Fn.g_law_scale 1 (consA (vE 1) nilA)) (nameG 3))
  (seqS (asgS (cllE Fn.g_law_row 3 (consA (vE 1) (consA (vE 2) (consA (cE (.int 60)) nilA)))) (nameG 4))
  (seqS (asgS (op2 ixD (lstE false (consA (vE 4) (consA (cllE Fn.g_law_near 3 (consA (vE 1) (consA (vE 4) (consA (vE 2) nilA)))) nilA))) (cllE Fn.g_law_next 2 (consA (vE 1) (consA (cE (.int 2)) nilA)))) (nameG 5))
  (seqS (forS (rng1I (consA (cE (.int 8)) nilA)) (nameG 6)
  (seqS (asgS (op2 subD (cllE Fn.g_law_next 2 (consA (vE 1) (consA (cE (.int 21)) nilA))) (cE (.int 10))) (nameG 7))
  (seqS (asgS (cllE Fn.g_likes_of 3 (consA (vE 4) (consA (vE 5) (consA (vE 7) nilA)))) (nameG 8))
  (ifS (notT (toB (cllE Fn.g_law_holds_all 3 (consA (vE 8) (consA (vE 3) (consA (cllE (Fn.g_ripe c) 2 (consA (vE 8) (consA (vE 3) nilA))) nilA))))))
  (retS (cE (.bl false)))
  nilS))))
  (retS (cE (.bl true)))))))))
noncomputable def g_k04_law (c : CC) : FF := sealed (fnF 9 false (b_k04_law c))
theorem e_k04_law (c : CC) : g_k04_law c = fnF 9 false (b_k04_law c) := sealed_eq _
/-! law_ripe: 0 _law_likes, 1 _law_scale_here, 2 _law_found, 3 _law_last, 4 _law_begin, 5 _law_low, 6 _law_end -/
noncomputable def b_law_ripe : FS :=
  (seqS (asgS (lstE true nilA) (nameG 2))
  (seqS (asgS (cE (.int 0)) (nameG 3))
  (seqS (forS (listI (callE (sortD false) (consA (lcE false (listI (cllE Fn.g_law_stands 2 (consA (vE 0) (consA (vE 1) nilA)))) (tupG 2 (consG (nameG 4) (consG (nameG 6) nilG))) yesT (tupE (consA (vE 4) (consA (op2 subD (cE (.int 0)) (vE 6)) nilA))) [4, 6]) nilA))) (tupG 2 (consG (nameG 4) (consG (nameG 5) nilG)))
  (ifS (toB (op2 gtD (op2 subD (cE (.int 0)) (vE 5)) (vE 3)))
  (seqS (dropS (mthL appendD (vE 2) (consA (tupE (consA (vE 4) (consA (op2 subD (cE (.int 0)) (vE 5)) nilA))) nilA)))
  (asgS (op2 subD (cE (.int 0)) (vE 5)) (nameG 3)))
  nilS))
  (retS (frzE (vE 2))))))
noncomputable def g_law_ripe : FF := sealed (fnF 7 true (b_law_ripe))
theorem e_law_ripe : g_law_ripe = fnF 7 true (b_law_ripe) := sealed_eq _
/-! law_reaches: 0 _law_one, 1 _law_other, 2 _law_scale_here, 3 _law_told, 4 _law_found, 5 _law_shift, 6 _law_likes, 7 _law_ahead, 8 _law_begin, 9 _law_end -/
noncomputable def b_law_reaches : FS :=
  (seqS (asgS (lstE true nilA) (nameG 4))
  (seqS (forS (rng2I (consA (op2 subD (cE (.int 0)) (callE lenD (consA (vE 0) nilA))) (consA (op2 (addD false) (callE lenD (consA (vE 1) nilA)) (cE (.int 1))) nilA))) (nameG 5)
  (seqS (asgS (cllE Fn.g_law_lane 3 (consA (vE 0) (consA (vE 1) (consA (vE 5) nilA)))) (tupG 2 (consG (nameG 6) (consG (nameG 7) nilG))))
  (forS (listI (cllE Fn.g_law_ripe 2 (consA (vE 6) (consA (vE 2) nilA)))) (tupG 2 (consG (nameG 8) (consG (nameG 9) nilG)))
  (ifS (toB (op2 geD (cllE Fn.g_law_worth 2 (consA (slE false (vE 6) (someO (vE 8)) (someO (vE 9))) (consA (vE 2) nilA))) (vE 3)))
  (dropS (mthL appendD (vE 4) (consA (tupE (consA (vE 5) (consA (op2 (addD false) (vE 7) (vE 8)) (consA (op2 (addD false) (vE 7) (vE 9)) nilA)))) nilA)))
  nilS))))
  (retS (frzE (vE 4)))))
noncomputable def g_law_reaches : FF := sealed (fnF 10 true (b_law_reaches))
theorem e_law_reaches : g_law_reaches = fnF 10 true (b_law_reaches) := sealed_eq _
/-! ripe_above: 0 one, 1 other, 2 shift, 3 scale, 4 told, 5 begin, 6 likes, 7 found, 8 first, 9 last -/
noncomputable def b_ripe_above (c : CC) : FS :=
  (seqS (asgS (op2 ixD (cllE Fn.g_lane_bounds 3 (consA (vE 0) (consA (vE 1) (consA (vE 2) nilA)))) (cE (.int 0))) (nameG 5))
  (seqS (asgS (cllE Fn.g_likes_of 3 (consA (vE 0) (consA (vE 1) (consA (vE 2) nilA)))) (nameG 6))
  (seqS (asgS (lstE true nilA) (nameG 7))
  (seqS (forS (listI (cllE (Fn.g_ripe c) 2 (consA (vE 6) (consA (vE 3) nilA)))) (tupG 2 (consG (nameG 8) (consG (nameG 9) nilG)))
  (ifS (toB (op2 geD (cllE Fn.g_worth_of 2 (consA (slE false (vE 6) (someO (vE 8)) (someO (vE 9))) (consA (vE 3) nilA))) (vE 4)))
  (dropS (mthL appendD (vE 7) (consA (tupE (consA (vE 2) (consA (op2 (addD false) (vE 5) (vE 8)) (consA (op2 (addD false) (vE 5) (vE 9)) nilA)))) nilA)))
  nilS))
  (retS (frzE (vE 7)))))))
noncomputable def g_ripe_above (c : CC) : FF := sealed (fnF 10 true (b_ripe_above c))
theorem e_ripe_above (c : CC) : g_ripe_above c = fnF 10 true (b_ripe_above c) := sealed_eq _
/-! reaches: 0 one, 1 other, 2 scale, 3 told, 4 found, 5 shift -/
noncomputable def b_reaches (c : CC) : FS :=
  (seqS (asgS (lstE true nilA) (nameG 4))
  (seqS (forS (rng2I (consA (op2 subD (cE (.int 1)) (callE lenD (consA (vE 0) nilA))) (consA (callE lenD (consA (vE 1) nilA)) nilA))) (nameG 5)
  (asgS (op2 (addD true) (vE 4) (cllE (Fn.g_ripe_above c) 5 (consA (vE 0) (consA (vE 1) (consA (vE 5) (consA (vE 2) (consA (vE 3) nilA))))))) (nameG 4)))
  (retS (vE 4))))
noncomputable def g_reaches (c : CC) : FF := sealed (fnO 6 (b_reaches c))
theorem e_reaches (c : CC) : g_reaches c = fnO 6 (b_reaches c) := sealed_eq _
/-! k03_law: 0 _law_script, 1 _law_h, 2 _law_letters_here, 3 _law_scale_here, 4 _law_one, 5 _law_other, 6 _law_told, 7 _law_turned, 8 _law_due, 9 _law_found, 10 _law_shift, 11 _law_begin, 12 _law_end -/
noncomputable def b_k03_law (c : CC) : FS :=
  (seqS (asgS (lstE true (consA (cE (.int 17)) (consA (callE (listD true) (consA (vE 0) nilA)) (consA (cE (.int 0)) nilA)))) (nameG 1))
  (seqS (asgS (cllE Fn.g_law_letters 1 (consA (vE 1) nilA)) (nameG 2))
  (seqS (asgS (cllE Fn.g_law_scale 1 (consA (vE 1) nilA)) (nameG 3))
  (seqS (asgS (cllE Fn.g_law_row 3 (consA (vE 1) (consA (vE 2) (consA (cE (.int 24)) nilA)))) (nameG 4))
  (seqS (asgS (op2 ixD (lstE false (consA (cllE Fn.g_law_row 3 (consA (vE 1) (consA (vE 2) (consA (cE (.int 24)) nilA)))) (consA (slE false (cllE Fn.g_law_near 3 (consA (vE 1) (consA (vE 4) (consA (vE 2) nilA)))) noO (someO (cE (.int 30)))) nilA))) (cllE Fn.g_law_next 2 (consA (vE 1) (consA (cE (.int 2)) nilA)))) (nameG 5))
  (seqS (forS (listI (lstE false (consA (cE (.int 1)) (consA (op2 (addD false) (cE (.int 1)) (cllE Fn.g_law_next 2 (consA (vE 1) (consA (cE (.int 12)) nilA)))) (consA (op2 (addD false) (cE (.int 1)) (cllE Fn.g_law_next 2 (consA (vE 1) (consA (cE (.int 60)) nilA)))) nilA))))) (nameG 6)
  (seqS (asgS (cllE Fn.g_law_reaches 4 (consA (vE 4) (consA (vE 5) (consA (vE 3) (consA (vE 6) nilA))))) (nameG 8))
  (seqS (asgS (cllE (Fn.g_reaches c) 4 (consA (vE 4) (consA (vE 5) (consA (vE 3) (consA (vE 6) nilA))))) (nameG 9))
  (seqS (ifS (notT (toB (cllE (Fn.g_law_same 8) 2 (consA (vE 9) (consA (vE 8) nilA)))))
  (retS (cE (.bl false)))
  nilS)
  (seqS (dropS (mthL appendD (vE 9) (consA (tupE nilA) nilA)))
  (ifS (toB (op2 neD (cllE (Fn.g_reaches c) 4 (consA (vE 4) (consA (vE 5) (consA (vE 3) (consA (vE 6) nilA))))) (vE 8)))
  (retS (cE (.bl false)))
  nilS))))))
  (seqS (asgS (lstE true nilA) (nameG 7))
  (seqS (forS (listI (cllE Fn.g_law_reaches 4 (consA (vE 4) (consA (vE 5) (consA (vE 3) (consA (cE (.int 1)) nilA)))))) (tupG 3 (consG (nameG 10) (consG (nameG 11) (consG (nameG 12) nilG))))
  (dropS (mthL appendD (vE 7) (consA (tupE (consA (op2 subD (cE (.int 0)) (vE 10)) (consA (op2 (addD false) (vE 11) (vE 10)) (consA (op2 (addD false) (vE 12) (vE 10)) nilA)))) nilA))))
  (retS (op2 eqD (cllE (Fn.g_reaches c) 4 (consA (vE 5) (consA (vE 4) (consA (vE 3) (consA (cE (.int 1)) nilA))))) (callE (sortD false) (consA (vE 7) nilA))))))))))))
noncomputable def g_k03_law (c : CC) : FF := sealed (fnF 13 false (b_k03_law c))
theorem e_k03_law (c : CC) : g_k03_law c = fnF 13 false (b_k03_law c) := sealed_eq _
/-! Machine_moves_from: 0 self, 1 state, 2 found, 3 sign, 4 worth, 5 likes, 6 seed -/
noncomputable def b_Machine_moves_from (c : CC) : FS :=
  (seqS (asgS (lstE true nilA) (nameG 2))
  (seqS (forS (listI (lstE false (consA (tupE (consA (cE (.str [61])) (consA (op2 ixD (op1 (fldD c.Machine "scale") (vE 0)) (cE (.int 0))) nilA))) (consA (tupE (consA (cE (.str [47])) (consA (op2 subD (cE (.int 0)) (op2 ixD (op1 (fldD c.Machine "scale") (vE 0)) (cE (.int 1)))) nilA))) nilA)))) (tupG 2 (consG (nameG 3) (consG (nameG 4) nilG)))
  (seqS (asgS (op2 (addD false) (vE 1) (vE 3)) (nameG 5))
  (ifS (toB (op2 eqD (lcE false (listI (op1 (fldD c.Machine "seeds") (vE 0))) (nameG 6) (toB (cllE Fn.g_fits 3 (consA (vE 6) (consA (vE 5) (consA (op2 subD (callE lenD (consA (vE 5) nilA)) (callE lenD (consA (vE 6) nilA))) nilA))))) (vE 6) [6]) (lstE false nilA)))
  (dropS (mthL appendD (vE 2) (consA (tupE (consA (vE 3) (consA (vE 4) (consA (slE false (vE 5) (someO (callE max2D (consA (cE (.int 0)) (consA (op2 (addD false) (op2 subD (callE lenD (consA (vE 5) nilA)) (op1 (fldD c.Machine "span") (vE 0))) (cE (.int 1))) nilA)))) noO) nilA)))) nilA)))
  nilS)))
  (retS (frzE (vE 2)))))
noncomputable def g_Machine_moves_from (c : CC) : FF := sealed (fnF 7 true (b_Machine_moves_from c))
theorem e_Machine_moves_from (c : CC) : g_Machine_moves_from c = fnF 7 true (b_Machine_moves_from c) := sealed_eq _
/-! Machine_init: 0 self, 1 seeds, 2 scale, 3 waiting, 4 state, 5 seed, 6 move -/
noncomputable def b_Machine_init (c : CC) : FS :=
  (seqS (fldS c.Machine "seeds" (vE 1) (vE 0))
  (seqS (fldS c.Machine "scale" (vE 2) (vE 0))
  (seqS (fldS c.Machine "span" (callE maxLD (consA (lcE false (listI (vE 1)) (nameG 5) yesT (callE lenD (consA (vE 5) nilA)) [5]) nilA)) (vE 0))
  (seqS (fldS c.Machine "moves" (dnewE false) (vE 0))
  (seqS (asgS (lstE true (consA (cE (.str [])) nilA)) (nameG 3))
  (whileS (toB (op2 neD (vE 3) (lstE false nilA)))
  (seqS (asgS (mthL popD (vE 3) nilA) (nameG 4))
  (ifS (toB (op2 (dinD true) (vE 4) (op1 (fldD c.Machine "moves") (vE 0))))
  (seqS (dputS (mthE c.Machine "moves_from" (Fn.g_Machine_moves_from c) 2 (vE 0) (consA (vE 4) nilA)) (op1 (fldD c.Machine "moves") (vE 0)) (vE 4))
  (dropS (mthL extendD (vE 3) (consA (lcE false (listI (op2 dixD (op1 (fldD c.Machine "moves") (vE 0)) (vE 4))) (nameG 6) yesT (op2 ixD (vE 6) (cE (.int 2))) [6]) nilA))))
  nilS))))))))
noncomputable def g_Machine_init (c : CC) : FF := sealed (fnF 7 false (b_Machine_init c))
theorem e_Machine_init (c : CC) : g_Machine_init c = fnF 7 false (b_Machine_init c) := sealed_eq _
/-! Machine_way_to: 0 self, 1 goal, 2 ways, 3 waiting, 4 state, 5 sign, 6 worth, 7 behind -/
noncomputable def b_Machine_way_to (c : CC) : FS :=
  (seqS (asgS (dict1E (cE (.str [])) (cE (.str []))) (nameG 2))
  (seqS (asgS (lstE true (consA (cE (.str [])) nilA)) (nameG 3))
  (seqS (whileS (toB (op2 (dinD true) (vE 1) (vE 2)))
  (seqS (asgS (mthL popAtD (vE 3) (consA (cE (.int 0)) nilA)) (nameG 4))
  (forS (listI (op2 dixD (op1 (fldD c.Machine "moves") (vE 0)) (vE 4))) (tupG 3 (consG (nameG 5) (consG (nameG 6) (consG (nameG 7) nilG))))
  (ifS (toB (op2 (dinD true) (vE 7) (vE 2)))
  (seqS (dputS (op2 (addD false) (op2 dixD (vE 2) (vE 4)) (vE 5)) (vE 2) (vE 7))
  (dropS (mthL appendD (vE 3) (consA (vE 7) nilA))))
  nilS))))
  (retS (op2 dixD (vE 2) (vE 1))))))
noncomputable def g_Machine_way_to (c : CC) : FF := sealed (fnF 8 true (b_Machine_way_to c))
theorem e_Machine_way_to (c : CC) : g_Machine_way_to c = fnF 8 true (b_Machine_way_to c) := sealed_eq _
/-! Machine_ring_at: 0 self, 1 state, 2 best, 3 found, 4 at -/
noncomputable def b_Machine_ring_at (c : CC) : FS :=
  (seqS (asgS (op2 ixD (op2 dixD (vE 2) (vE 1)) (cE (.int 2))) (nameG 3))
  (seqS (asgS (op2 ixD (op2 dixD (vE 2) (vE 1)) (cE (.int 1))) (nameG 4))
  (seqS (whileS (toB (op2 neD (vE 4) (vE 1)))
  (seqS (asgS (op2 (addD false) (op2 ixD (op2 dixD (vE 2) (vE 4)) (cE (.int 2))) (vE 3)) (nameG 3))
  (asgS (op2 ixD (op2 dixD (vE 2) (vE 4)) (cE (.int 1))) (nameG 4))))
  (retS (vE 3)))))
noncomputable def g_Machine_ring_at (c : CC) : FF := sealed (fnF 5 true (b_Machine_ring_at c))
theorem e_Machine_ring_at (c : CC) : g_Machine_ring_at c = fnF 5 true (b_Machine_ring_at c) := sealed_eq _
/-! Machine_growing: 0 self, 1 best, 2 changed, 3 turn, 4 state, 5 sign, 6 worth, 7 goal, 8 total -/
noncomputable def b_Machine_growing (c : CC) : FS :=
  (seqS (asgS (dict1E (cE (.str [])) (tupE (consA (cE (.int 0)) (consA (cE (.str [])) (consA (cE (.str [])) nilA))))) (nameG 1))
  (seqS (asgS (lstE true (consA (cE (.str [])) nilA)) (nameG 2))
  (seqS (forS (rng1I (consA (op2 (addD false) (callE lenD (consA (op1 (fldD c.Machine "moves") (vE 0)) nilA)) (cE (.int 1))) nilA)) (nameG 3)
  (seqS (asgS (lstE true nilA) (nameG 2))
  (forS (listI (callE (keysD false) (consA (vE 1) nilA))) (nameG 4)
  (forS (listI (op2 dixD (op1 (fldD c.Machine "moves") (vE 0)) (vE 4))) (tupG 3 (consG (nameG 5) (consG (nameG 6) (consG (nameG 7) nilG))))
  (seqS (asgS (op2 (addD false) (op2 ixD (op2 dixD (vE 1) (vE 4)) (cE (.int 0))) (vE 6)) (nameG 8))
  (ifS (orT (toB (op2 (dinD true) (vE 7) (vE 1))) (toB (op2 gtD (vE 8) (op2 ixD (op2 dixD (vE 1) (vE 7)) (cE (.int 0))))))
  (seqS (dputS (tupE (consA (vE 8) (consA (vE 4) (consA (vE 5) nilA)))) (vE 1) (vE 7))
  (dropS (mthL appendD (vE 2) (consA (vE 7) nilA))))
  nilS))))))
  (seqS (ifS (toB (op2 eqD (vE 2) (lstE false nilA)))
  (retS (cE .non))
  nilS)
  (seqS (asgS (op2 ixD (vE 2) (cE (.int 0))) (nameG 4))
  (seqS (forS (rng1I (consA (callE lenD (consA (op1 (fldD c.Machine "moves") (vE 0)) nilA)) nilA)) (nameG 3)
  (asgS (op2 ixD (op2 dixD (vE 1) (vE 4)) (cE (.int 1))) (nameG 4)))
  (retS (tupE (consA (mthE c.Machine "way_to" (Fn.g_Machine_way_to c) 2 (vE 0) (consA (vE 4) nilA)) (consA (mthE c.Machine "ring_at" (Fn.g_Machine_ring_at c) 3 (vE 0) (consA (vE 4) (consA (vE 1) nilA))) nilA))))))))))
noncomputable def g_Machine_growing (c : CC) : FF := sealed (fnF 9 true (b_Machine_growing c))
theorem e_Machine_growing (c : CC) : g_Machine_growing c = fnF 9 true (b_Machine_growing c) := sealed_eq _
/-! Machine_best_by_length: 0 self, 1 rows, 2 state, 3 length, 4 row, 5 some, 6 move -/
noncomputable def b_Machine_best_by_length (c : CC) : FS :=
  (seqS (asgS (lstE true (consA (dnewE false) nilA)) (nameG 1))
  (seqS (lockS (op1 (fldD c.Machine "moves") (vE 0)) (forS (keysI (op1 (fldD c.Machine "moves") (vE 0))) (nameG 2)
  (dputS (cE (.int 0)) (op2 ixD (vE 1) (cE (.int 0))) (vE 2))))
  (seqS (forS (rng1I (consA (callE lenD (consA (op1 (fldD c.Machine "moves") (vE 0)) nilA)) nilA)) (nameG 3)
  (seqS (asgS (dnewE false) (nameG 4))
  (seqS (lockS (op1 (fldD c.Machine "moves") (vE 0)) (forS (keysI (op1 (fldD c.Machine "moves") (vE 0))) (nameG 2)
  (seqS (asgS (lcE false (listI (op2 dixD (op1 (fldD c.Machine "moves") (vE 0)) (vE 2))) (nameG 6) (toB (op2 isntNonD (op2 dixD (op2 ixD (vE 1) (op1 negD (cE (.int 1)))) (op2 ixD (vE 6) (cE (.int 2)))) (cE .non))) (op2 (addD false) (op2 ixD (vE 6) (cE (.int 1))) (op2 dixD (op2 ixD (vE 1) (op1 negD (cE (.int 1)))) (op2 ixD (vE 6) (cE (.int 2))))) [6]) (nameG 5))
  (dputS (maxDefE (vE 5)) (vE 4) (vE 2)))))
  (dropS (mthL appendD (vE 1) (consA (vE 4) nilA))))))
  (retS (frzE (vE 1))))))
noncomputable def g_Machine_best_by_length (c : CC) : FF := sealed (fnF 7 false (b_Machine_best_by_length c))
theorem e_Machine_best_by_length (c : CC) : g_Machine_best_by_length c = fnF 7 false (b_Machine_best_by_length c) := sealed_eq _
/-! Machine_first_way: 0 self, 1 rows, 2 length, 3 found, 4 state, 5 left, 6 sign, 7 worth, 8 goal -/
noncomputable def b_Machine_first_way (c : CC) : FS :=
  (seqS (asgS (cE (.str [])) (nameG 3))
  (seqS (asgS (cE (.str [])) (nameG 4))
  (seqS (forS (revI (vE 2)) (nameG 5)
  (forS (listI (op2 dixD (op1 (fldD c.Machine "moves") (vE 0)) (vE 4))) (tupG 3 (consG (nameG 6) (consG (nameG 7) (consG (nameG 8) nilG))))
  (ifS (andT (toB (op2 isntNonD (op2 dixD (op2 ixD (vE 1) (vE 5)) (vE 8)) (cE .non))) (toB (op2 eqD (op2 (addD false) (vE 7) (op2 dixD (op2 ixD (vE 1) (vE 5)) (vE 8))) (op2 dixD (op2 ixD (vE 1) (op2 (addD false) (vE 5) (cE (.int 1)))) (vE 4)))))
  (seqS (asgS (op2 (addD false) (vE 3) (vE 6)) (nameG 3))
  (seqS (asgS (vE 8) (nameG 4))
  brkS))
  nilS)))
  (retS (vE 3)))))
noncomputable def g_Machine_first_way (c : CC) : FF := sealed (fnF 9 true (b_Machine_first_way c))
theorem e_Machine_first_way (c : CC) : g_Machine_first_way c = fnF 9 true (b_Machine_first_way c) := sealed_eq _
/-! bar: 0 seeds, 1 scale, 2 machine, 3 ring, 4 rows, 5 most, 6 length, 7 row, 8 k -/
noncomputable def b_bar (c : CC) : FS :=
  (seqS (asgS (makeE c.Machine (Fn.g_Machine_init c) 3 (consA (vE 0) (consA (vE 1) nilA))) (nameG 2))
  (seqS (asgS (mthE c.Machine "growing" (Fn.g_Machine_growing c) 1 (vE 2) nilA) (nameG 3))
  (seqS (ifS (toB (op2 isntNonD (vE 3) (cE .non)))
  (retS (tupE (consA (cE (.str [101, 110, 100, 108, 101, 115, 115])) (consA (op2 ixD (vE 3) (cE (.int 0))) (consA (op2 ixD (vE 3) (cE (.int 1))) nilA)))))
  nilS)
  (seqS (asgS (mthE c.Machine "best_by_length" (Fn.g_Machine_best_by_length c) 1 (vE 2) nilA) (nameG 4))
  (seqS (asgS (callE maxLD (consA (lcE false (listI (vE 4)) (nameG 7) (toB (op2 isntNonD (op2 dixD (vE 7) (cE (.str []))) (cE .non))) (op2 dixD (vE 7) (cE (.str []))) [7]) nilA)) (nameG 5))
  (seqS (asgS (op2 ixD (lcE false (rng1I (consA (callE lenD (consA (vE 4) nilA)) nilA)) (nameG 8) (toB (op2 eqD (op2 dixD (op2 ixD (vE 4) (vE 8)) (cE (.str []))) (vE 5))) (vE 8) [8]) (cE (.int 0))) (nameG 6))
  (retS (tupE (consA (cE (.str [98, 97, 114])) (consA (vE 5) (consA (mthE c.Machine "first_way" (Fn.g_Machine_first_way c) 3 (vE 2) (consA (vE 4) (consA (vE 6) nilA))) nilA)))))))))))
noncomputable def g_bar (c : CC) : FF := sealed (fnF 9 true (b_bar c))
theorem e_bar (c : CC) : g_bar c = fnF 9 true (b_bar c) := sealed_eq _
/-! law_unseeded: 0 _law_seeds_here, 1 _law_most, 2 _law_found, 3 _law_last, 4 _law_turn, 5 _law_rows, 6 _law_likes, 7 _law_sign, 8 _law_ends, 9 _law_seed_here -/
noncomputable def b_law_unseeded : FS :=
  (seqS (asgS (lstE false (consA (cE (.str [])) nilA)) (nameG 2))
  (seqS (asgS (lstE false (consA (cE (.str [])) nilA)) (nameG 3))
  (seqS (forS (rng1I (consA (vE 1) nilA)) (nameG 4)
  (seqS (asgS (lstE true nilA) (nameG 5))
  (seqS (forS (listI (vE 3)) (nameG 6)
  (forS (strI (cE (.str [61, 47]))) (nameG 7)
  (seqS (asgS (lcE false (listI (vE 0)) (nameG 9) (toB (cllE Fn.g_law_fits 3 (consA (vE 9) (consA (op2 (addD false) (vE 6) (vE 7)) (consA (op2 subD (op2 (addD false) (callE lenD (consA (vE 6) nilA)) (cE (.int 1))) (callE lenD (consA (vE 9) nilA))) nilA))))) (vE 9) [9]) (nameG 8))
  (ifS (toB (op2 eqD (vE 8) (lstE false nilA)))
  (dropS (mthL appendD (vE 5) (consA (op2 (addD false) (vE 6) (vE 7)) nilA)))
  nilS))))
  (seqS (asgS (op2 (addD false) (vE 2) (vE 5)) (nameG 2))
  (asgS (vE 5) (nameG 3))))))
  (retS (vE 2)))))
noncomputable def g_law_unseeded : FF := sealed (fnF 10 true (b_law_unseeded))
theorem e_law_unseeded : g_law_unseeded = fnF 10 true (b_law_unseeded) := sealed_eq _
/-! law_is_ring: 0 _law_found, 1 _law_seeds_here, 2 _law_scale_here -/
noncomputable def b_law_is_ring : FS :=
  (seqS (ifS (orT (notT (toB (callE isiF (consA (op2 ixD (vE 0) (cE (.int 1))) (consA (cE (.ty "str")) nilA))))) (orT (notT (toB (callE isiF (consA (op2 ixD (vE 0) (cE (.int 2))) (consA (cE (.ty "str")) nilA))))) (toB (op2 leD (cllE Fn.g_law_worth 2 (consA (op2 ixD (vE 0) (cE (.int 2))) (consA (vE 2) nilA))) (cE (.int 0))))))
  (retS (cE (.bl false)))
  nilS)
  (retS (notE (cllE Fn.g_law_seeded 2 (consA (vE 1) (consA (op2 (addD false) (op2 ixD (vE 0) (cE (.int 1))) (op2 mulSD (op2 ixD (vE 0) (cE (.int 2))) (cE (.int 9)))) nilA))))))
noncomputable def g_law_is_ring : FF := sealed (fnF 3 true (b_law_is_ring))
theorem e_law_is_ring : g_law_is_ring = fnF 3 true (b_law_is_ring) := sealed_eq _
/-! k07_law: 0 _law_script, 1 _law_h, 2 _law_seeds_here, 3 _law_scale_here, 4 _law_handed, 5 _law_found, 6 _law_every, 7 _law_best, 8 _law_likes -/
noncomputable def b_k07_law (c : CC) : FS :=
  (seqS (asgS (lstE true (consA (cE (.int 31)) (consA (callE (listD true) (consA (vE 0) nilA)) (consA (cE (.int 0)) nilA)))) (nameG 1))
  (seqS (asgS (cllE Fn.g_law_seeds 2 (consA (vE 1) (consA (cE (.int 4)) nilA))) (nameG 2))
  (seqS (asgS (cllE Fn.g_law_scale 1 (consA (vE 1) nilA)) (nameG 3))
  (seqS (asgS (callE (listD false) (consA (vE 2) nilA)) (nameG 4))
  (seqS (asgS (cllE (Fn.g_bar c) 2 (consA (vE 4) (consA (vE 3) nilA))) (nameG 5))
  (seqS (ifS (orT (notT (toB (callE isiF (consA (vE 5) (consA (cE (.ty "tuple")) nilA))))) (orT (toB (op2 neD (callE lenD (consA (vE 5) nilA)) (cE (.int 3)))) (orT (toB (op2 neD (vE 4) (vE 2))) (toB (op2 neD (cllE (Fn.g_bar c) 2 (consA (vE 4) (consA (vE 3) nilA))) (vE 5))))))
  (retS (cE (.bl false)))
  nilS)
  (seqS (ifS (toB (op2 eqD (op2 ixD (vE 5) (cE (.int 0))) (cE (.str [101, 110, 100, 108, 101, 115, 115]))))
  (retS (cllE Fn.g_law_is_ring 3 (consA (vE 5) (consA (vE 2) (consA (vE 3) nilA)))))
  nilS)
  (seqS (ifS (orT (toB (op2 neD (op2 ixD (vE 5) (cE (.int 0))) (cE (.str [98, 97, 114])))) (orT (toB (callE isiF (consA (op2 ixD (vE 5) (cE (.int 1))) (consA (cE (.ty "bool")) nilA)))) (notT (toB (callE isiF (consA (op2 ixD (vE 5) (cE (.int 1))) (consA (cE (.ty "int")) nilA)))))))
  (retS (cE (.bl false)))
  nilS)
  (seqS (ifS (orT (notT (toB (callE isiF (consA (op2 ixD (vE 5) (cE (.int 2))) (consA (cE (.ty "str")) nilA))))) (orT (toB (op2 neD (cllE Fn.g_law_worth 2 (consA (op2 ixD (vE 5) (cE (.int 2))) (consA (vE 3) nilA))) (op2 ixD (vE 5) (cE (.int 1))))) (toB (cllE Fn.g_law_seeded 2 (consA (vE 2) (consA (op2 ixD (vE 5) (cE (.int 2))) nilA))))))
  (retS (cE (.bl false)))
  nilS)
  (seqS (asgS (cllE Fn.g_law_unseeded 2 (consA (vE 2) (consA (cE (.int 9)) nilA))) (nameG 6))
  (seqS (asgS (lcE false (listI (vE 6)) (nameG 8) (toB (op2 geD (cllE Fn.g_law_worth 2 (consA (vE 8) (consA (vE 3) nilA))) (op2 ixD (vE 5) (cE (.int 1))))) (vE 8) [8]) (nameG 7))
  (seqS (ifS (toB (op2 neD (lcE false (listI (vE 7)) (nameG 8) (toB (op2 gtD (cllE Fn.g_law_worth 2 (consA (vE 8) (consA (vE 3) nilA))) (op2 ixD (vE 5) (cE (.int 1))))) (vE 8) [8]) (lstE false nilA)))
  (retS (cE (.bl false)))
  nilS)
  (retS (orE (op2 gtD (callE lenD (consA (op2 ixD (vE 5) (cE (.int 2))) nilA)) (cE (.int 9))) (op2 eqD (op2 ixD (vE 7) (cE (.int 0))) (op2 ixD (vE 5) (cE (.int 2))))))))))))))))))
noncomputable def g_k07_law (c : CC) : FF := sealed (fnF 9 false (b_k07_law c))
theorem e_k07_law (c : CC) : g_k07_law c = fnF 9 false (b_k07_law c) := sealed_eq _
/-! law_changed: 0 _law_h, 1 _law_likes_here, 2 _law_found, 3 _law_turn, 4 _law_at -/
noncomputable def b_law_changed : FS :=
  (seqS (asgS (op2 (addD false) (vE 1) (slE false (vE 1) noO (someO (cllE Fn.g_law_next 2 (consA (vE 0) (consA (op2 (addD false) (callE lenD (consA (vE 1) nilA)) (cE (.int 1))) nilA)))))) (nameG 2))
  (seqS (forS (rng1I (consA (op2 (addD false) (cE (.int 1)) (cllE Fn.g_law_next 2 (consA (vE 0) (consA (cE (.int 3)) nilA)))) nilA)) (nameG 3)
  (seqS (asgS (cllE Fn.g_law_next 2 (consA (vE 0) (consA (op2 (addD false) (callE lenD (consA (vE 2) nilA)) (cE (.int 1))) nilA))) (nameG 4))
  (asgS (op2 (addD false) (op2 (addD false) (slE false (vE 2) noO (someO (vE 4))) (op2 mulSD (op2 ixD (cE (.str [61, 47])) (cllE Fn.g_law_next 2 (consA (vE 0) (consA (cE (.int 2)) nilA)))) (op2 (addD false) (cE (.int 1)) (cllE Fn.g_law_next 2 (consA (vE 0) (consA (cE (.int 2)) nilA)))))) (slE false (vE 2) (someO (op2 (addD false) (vE 4) (cllE Fn.g_law_next 2 (consA (vE 0) (consA (cE (.int 2)) nilA))))) noO)) (nameG 2))))
  (retS (slE false (vE 2) noO (someO (cE (.int 60)))))))
noncomputable def g_law_changed : FF := sealed (fnF 5 true (b_law_changed))
theorem e_law_changed : g_law_changed = fnF 5 true (b_law_changed) := sealed_eq _
/-! k09_law: 0 _law_script, 1 _law_h, 2 _law_seeds_here, 3 _law_scale_here, 4 _law_found, 5 _law_likes_here, 6 _law_begin, 7 _law_total, 8 _law_end -/
noncomputable def b_k09_law (c : CC) : FS :=
  (seqS (asgS (lstE true (consA (cE (.int 41)) (consA (callE (listD true) (consA (vE 0) nilA)) (consA (cE (.int 0)) nilA)))) (nameG 1))
  (seqS (asgS (cllE Fn.g_law_seeds 2 (consA (vE 1) (consA (cE (.int 6)) nilA))) (nameG 2))
  (seqS (asgS (cllE Fn.g_law_scale 1 (consA (vE 1) nilA)) (nameG 3))
  (seqS (asgS (cllE (Fn.g_bar c) 2 (consA (vE 2) (consA (vE 3) nilA))) (nameG 4))
  (seqS (ifS (toB (op2 eqD (op2 ixD (vE 4) (cE (.int 0))) (cE (.str [101, 110, 100, 108, 101, 115, 115]))))
  (retS (andE (op2 gtD (cllE Fn.g_law_worth 2 (consA (op2 ixD (vE 4) (cE (.int 2))) (consA (vE 3) nilA))) (cE (.int 0))) (notE (cllE Fn.g_law_seeded 2 (consA (vE 2) (consA (op2 (addD false) (op2 ixD (vE 4) (cE (.int 1))) (op2 mulSD (op2 ixD (vE 4) (cE (.int 2))) (cE (.int 9)))) nilA))))))
  nilS)
  (seqS (ifS (orT (toB (cllE Fn.g_law_seeded 2 (consA (vE 2) (consA (op2 ixD (vE 4) (cE (.int 2))) nilA)))) (toB (op2 neD (cllE Fn.g_law_worth 2 (consA (op2 ixD (vE 4) (cE (.int 2))) (consA (vE 3) nilA))) (op2 ixD (vE 4) (cE (.int 1))))))
  (retS (cE (.bl false)))
  nilS)
  (seqS (asgS (cllE Fn.g_law_likes 2 (consA (vE 1) (consA (cE (.int 60)) nilA))) (nameG 5))
  (seqS (ifS (toB (op2 eqD (cllE Fn.g_law_next 2 (consA (vE 1) (consA (cE (.int 2)) nilA))) (cE (.int 0))))
  (asgS (cllE Fn.g_law_changed 2 (consA (vE 1) (consA (op2 ixD (vE 4) (cE (.int 2))) nilA))) (nameG 5))
  nilS)
  (seqS (forS (rng1I (consA (callE lenD (consA (vE 5) nilA)) nilA)) (nameG 6)
  (seqS (asgS (cE (.int 0)) (nameG 7))
  (forS (rng2I (consA (op2 (addD false) (vE 6) (cE (.int 1))) (consA (op2 (addD false) (callE lenD (consA (vE 5) nilA)) (cE (.int 1))) nilA))) (nameG 8)
  (seqS (asgS (op2 (addD false) (vE 7) (cllE Fn.g_law_worth 2 (consA (op2 ixD (vE 5) (op2 subD (vE 8) (cE (.int 1)))) (consA (vE 3) nilA)))) (nameG 7))
  (ifS (andT (toB (op2 gtD (vE 7) (op2 ixD (vE 4) (cE (.int 1))))) (notT (toB (cllE Fn.g_law_seeded 2 (consA (vE 2) (consA (slE false (vE 5) (someO (vE 6)) (someO (vE 8))) nilA))))))
  (retS (cE (.bl false)))
  nilS)))))
  (retS (cE (.bl true))))))))))))
noncomputable def g_k09_law (c : CC) : FF := sealed (fnF 9 false (b_k09_law c))
theorem e_k09_law (c : CC) : g_k09_law c = fnF 9 false (b_k09_law c) := sealed_eq _
end Fn

/-! Dlb: what the defs do, as functions on data. Printed by gen.py. -/
namespace Fn
open PySem L2 Dt
/-! law_made: 0 _law_h, 1 _law_many, 2 _law_seeds, 3 _law_seed, 4 _law_ring, 5 _law_best -/
noncomputable def b_law_made : FS :=
  (seqS (asgS (op2 (addD false) (cE (.int 1)) (cllE Fn.g_law_next 2 (consA (vE 0) (consA (cE (.int 8)) nilA)))) (nameG 1))
  (seqS (ifS (toB (op2 eqD (cllE Fn.g_law_next 2 (consA (vE 0) (consA (cE (.int 2)) nilA))) (cE (.int 0))))
  (seqS (asgS (op2 mulSD (cE (.str [35])) (vE 1)) (nameG 3))
  (seqS (asgS (tupE (consA (op2 subD (vE 1) (cE (.int 1))) (consA (cE (.int 1)) nilA))) (nameG 4))
  (asgS (op2 mulSD (cE (.str [61])) (op2 subD (vE 1) (cE (.int 1)))) (nameG 5))))
  (seqS (asgS (ifE (toB (op2 gtD (vE 1) (cE (.int 1)))) (op2 (addD false) (op2 (addD false) (cE (.str [35])) (op2 mulSD (cE (.str [45])) (op2 subD (vE 1) (cE (.int 2))))) (cE (.str [35]))) (cE (.str [35]))) (nameG 3))
  (seqS (asgS (ifE (toB (op2 gtD (vE 1) (cE (.int 1)))) (tupE (consA (op2 subD (vE 1) (cE (.int 1))) (consA (op2 subD (vE 1) (cE (.int 1))) nilA))) (tupE (consA (cE (.int 0)) (consA (cE (.int 1)) nilA)))) (nameG 4))
  (asgS (op2 mulSD (cE (.str [61])) (op2 subD (vE 1) (cE (.int 1)))) (nameG 5)))))
  (seqS (asgS (lstE true (consA (vE 3) nilA)) (nameG 2))
  (seqS (ifS (andT (toB (op2 ltD (vE 1) (cE (.int 7)))) (toB (op2 eqD (cllE Fn.g_law_next 2 (consA (vE 0) (consA (cE (.int 2)) nilA))) (cE (.int 0)))))
  (seqS (dropS (mthL appendD (vE 2) (consA (op2 (addD false) (op2 mulSD (cE (.str [35])) (vE 1)) (op2 mulSD (cE (.str [35])) (cllE Fn.g_law_next 2 (consA (vE 0) (consA (op2 subD (cE (.int 9)) (vE 1)) nilA))))) nilA)))
  (ifS (toB (op2 eqD (cllE Fn.g_law_next 2 (consA (vE 0) (consA (cE (.int 2)) nilA))) (cE (.int 0))))
  (asgS (lstE true (consA (op2 ixD (vE 2) (cE (.int 1))) (consA (op2 ixD (vE 2) (cE (.int 0))) nilA))) (nameG 2))
  nilS))
  nilS)
  (retS (tupE (consA (frzE (vE 2)) (consA (vE 4) (consA (vE 5) nilA)))))))))
noncomputable def g_law_made : FF := sealed (fnF 6 true (b_law_made))
theorem e_law_made : g_law_made = fnF 6 true (b_law_made) := sealed_eq _
/-! k08_law: 0 _law_script, 1 _law_h, 2 _law_turn, 3 _law_gain, 4 _law_loss, 5 _law_seeds, 6 _law_ring, 7 _law_best, 8 _law_found -/
noncomputable def b_k08_law (c : CC) : FS :=
  (seqS (asgS (lstE true (consA (cE (.int 37)) (consA (callE (listD true) (consA (vE 0) nilA)) (consA (cE (.int 0)) nilA)))) (nameG 1))
  (seqS (forS (rng1I (consA (cE (.int 2)) nilA)) (nameG 2)
  (seqS (asgS (cllE Fn.g_law_made 1 (consA (vE 1) nilA)) (tupG 3 (consG (nameG 5) (consG (nameG 6) (consG (nameG 7) nilG)))))
  (seqS (asgS (op2 (addD false) (cE (.int 1)) (cllE Fn.g_law_next 2 (consA (vE 1) (consA (cE (.int 9)) nilA)))) (nameG 3))
  (forS (listI (lstE false (consA (op2 (addD false) (cE (.int 1)) (cllE Fn.g_law_next 2 (consA (vE 1) (consA (cE (.int 9)) nilA)))) (consA (vE 3) (consA (callE min2D (consA (cE (.int 9)) (consA (op2 (addD false) (vE 3) (cE (.int 1))) nilA))) (consA (callE max2D (consA (cE (.int 1)) (consA (op2 subD (vE 3) (cE (.int 1))) nilA))) nilA)))))) (nameG 4)
  (seqS (asgS (cllE (Fn.g_bar c) 2 (consA (vE 5) (consA (tupE (consA (vE 3) (consA (vE 4) nilA))) nilA))) (nameG 8))
  (ifS (toB (op2 gtD (op2 subD (op2 mulD (op2 ixD (vE 6) (cE (.int 0))) (vE 3)) (op2 mulD (op2 ixD (vE 6) (cE (.int 1))) (vE 4))) (cE (.int 0))))
  (seqS (ifS (orT (toB (op2 neD (op2 ixD (vE 8) (cE (.int 0))) (cE (.str [101, 110, 100, 108, 101, 115, 115])))) (toB (op2 leD (cllE Fn.g_law_worth 2 (consA (op2 ixD (vE 8) (cE (.int 2))) (consA (tupE (consA (vE 3) (consA (vE 4) nilA))) nilA))) (cE (.int 0)))))
  (retS (cE (.bl false)))
  nilS)
  (ifS (toB (cllE Fn.g_law_seeded 2 (consA (vE 5) (consA (op2 (addD false) (op2 ixD (vE 8) (cE (.int 1))) (op2 mulSD (op2 ixD (vE 8) (cE (.int 2))) (cE (.int 9)))) nilA))))
  (retS (cE (.bl false)))
  nilS))
  (ifS (toB (op2 neD (vE 8) (tupE (consA (cE (.str [98, 97, 114])) (consA (op2 mulD (vE 3) (callE lenD (consA (vE 7) nilA))) (consA (vE 7) nilA))))))
  (retS (cE (.bl false)))
  nilS)))))))
  (retS (cE (.bl true)))))
noncomputable def g_k08_law (c : CC) : FF := sealed (fnF 9 false (b_k08_law c))
theorem e_k08_law (c : CC) : g_k08_law c = fnF 9 false (b_k08_law c) := sealed_eq _
end Fn

/-! Dlc: what the defs do, as functions on data. Printed by gen.py. -/
namespace Fn
open PySem L2 Dt
/-! bound: 0 one, 1 other, 2 scale, 3 sign -/
noncomputable def b_bound : FS :=
  (retS (op2 mulD (op2 ixD (vE 2) (cE (.int 0))) (callE sumD (consA (lcE false (listI (op1 (sortTxD false) (callE (charsF false) (consA (vE 0) nilA)))) (nameG 3) yesT (callE min2D (consA (mth1 countD (vE 0) (vE 3)) (consA (mth1 countD (vE 1) (vE 3)) nilA))) [3]) nilA))))
noncomputable def g_bound : FF := sealed (fnF 4 true (b_bound))
theorem e_bound : g_bound = fnF 4 true (b_bound) := sealed_eq _
/-! k18_law: 0 _law_script, 1 _law_h, 2 _law_letters_here, 3 _law_scale_here, 4 _law_one, 5 _law_other, 6 _law_due, 7 _law_left, 8 _law_sign, 9 _law_turn, 10 _law_likes -/
noncomputable def b_k18_law : FS :=
  (seqS (asgS (lstE true (consA (cE (.int 79)) (consA (callE (listD true) (consA (vE 0) nilA)) (consA (cE (.int 0)) nilA)))) (nameG 1))
  (seqS (asgS (cllE Fn.g_law_letters 1 (consA (vE 1) nilA)) (nameG 2))
  (seqS (asgS (cllE Fn.g_law_scale 1 (consA (vE 1) nilA)) (nameG 3))
  (seqS (asgS (cllE Fn.g_law_row 3 (consA (vE 1) (consA (vE 2) (consA (cE (.int 60)) nilA)))) (nameG 4))
  (seqS (asgS (op2 ixD (lstE false (consA (cllE Fn.g_law_row 3 (consA (vE 1) (consA (vE 2) (consA (cE (.int 60)) nilA)))) (consA (cllE Fn.g_law_near 3 (consA (vE 1) (consA (vE 4) (consA (vE 2) nilA)))) (consA (op1 revD (vE 4)) nilA)))) (cllE Fn.g_law_next 2 (consA (vE 1) (consA (cE (.int 3)) nilA)))) (nameG 5))
  (seqS (asgS (cE (.int 0)) (nameG 6))
  (seqS (asgS (callE (charsF true) (consA (vE 5) nilA)) (nameG 7))
  (seqS (forS (strI (vE 4)) (nameG 8)
  (ifS (toB (op2 (inD false) (vE 8) (vE 7)))
  (seqS (dropS (mthL removeD (vE 7) (consA (vE 8) nilA)))
  (asgS (op2 (addD false) (vE 6) (op2 ixD (vE 3) (cE (.int 0)))) (nameG 6)))
  nilS))
  (seqS (ifS (orT (notT (toB (cllE (Fn.g_law_same 8) 2 (consA (cllE Fn.g_bound 3 (consA (vE 4) (consA (vE 5) (consA (vE 3) nilA)))) (consA (vE 6) nilA))))) (toB (op2 neD (cllE Fn.g_bound 3 (consA (vE 5) (consA (vE 4) (consA (vE 3) nilA)))) (vE 6))))
  (retS (cE (.bl false)))
  nilS)
  (seqS (ifS (orT (toB (op2 neD (cllE Fn.g_bound 3 (consA (vE 4) (consA (cE (.str [])) (consA (vE 3) nilA)))) (cE (.int 0)))) (toB (op2 neD (cllE Fn.g_bound 3 (consA (vE 4) (consA (vE 4) (consA (vE 3) nilA)))) (op2 mulD (op2 ixD (vE 3) (cE (.int 0))) (callE lenD (consA (vE 4) nilA))))))
  (retS (cE (.bl false)))
  nilS)
  (seqS (forS (rng1I (consA (cE (.int 6)) nilA)) (nameG 9)
  (seqS (asgS (cllE Fn.g_likes_of 3 (consA (vE 4) (consA (vE 5) (consA (op2 subD (cllE Fn.g_law_next 2 (consA (vE 1) (consA (cE (.int 41)) nilA))) (cE (.int 20))) nilA)))) (nameG 10))
  (ifS (toB (op2 gtD (op2 mulD (op2 ixD (vE 3) (cE (.int 0))) (mth1 countD (vE 10) (cE (.str [61])))) (vE 6)))
  (retS (cE (.bl false)))
  nilS)))
  (retS (cE (.bl true))))))))))))))
noncomputable def g_k18_law : FF := sealed (fnF 11 false (b_k18_law))
theorem e_k18_law : g_k18_law = fnF 11 false (b_k18_law) := sealed_eq _
/-! law_rows: 0 _law_h, 1 _law_letters_here, 2 _law_most, 3 _law_rows_here, 4 _law_k -/
noncomputable def b_law_rows : FS :=
  (seqS (asgS (lstE true nilA) (nameG 3))
  (seqS (forS (rng1I (consA (cllE Fn.g_law_next 2 (consA (vE 0) (consA (op2 (addD false) (vE 2) (cE (.int 1))) nilA))) nilA)) (nameG 4)
  (ifS (andT (toB (op2 neD (vE 3) (lstE false nilA))) (toB (op2 gtD (cllE Fn.g_law_next 2 (consA (vE 0) (consA (cE (.int 3)) nilA))) (cE (.int 0)))))
  (dropS (mthL appendD (vE 3) (consA (cllE Fn.g_law_near 3 (consA (vE 0) (consA (op2 ixD (vE 3) (op1 negD (cE (.int 1)))) (consA (vE 1) nilA)))) nilA)))
  (dropS (mthL appendD (vE 3) (consA (cllE Fn.g_law_row 3 (consA (vE 0) (consA (vE 1) (consA (cE (.int 60)) nilA)))) nilA)))))
  (retS (frzE (vE 3)))))
noncomputable def g_law_rows : FF := sealed (fnF 5 true (b_law_rows))
theorem e_law_rows : g_law_rows = fnF 5 true (b_law_rows) := sealed_eq _
/-! need: 0 good -/
noncomputable def b_need (c : CC) : FS :=
  (ifS (notT (toB (vE 0)))
  neverS
  nilS)
noncomputable def g_need (c : CC) : FF := sealed (fnF 1 true (b_need c))
theorem e_need (c : CC) : g_need c = fnF 1 true (b_need c) := sealed_eq _
/-! need_letters: 0 letters, 1 sign -/
noncomputable def b_need_letters (c : CC) : FS :=
  (seqS (dropS (cllE (Fn.g_need c) 1 (consA (andE (chE leD leD (cE (.int 2)) (callE lenD (consA (vE 0) nilA)) (cE (.int 6))) (op2 eqD (op1 lenTxD (callE (charsF false) (consA (vE 0) nilA))) (callE lenD (consA (vE 0) nilA)))) nilA)))
  (forS (strI (vE 0)) (nameG 1)
  (dropS (cllE (Fn.g_need c) 1 (consA (op2 (inD false) (vE 1) (cE (.str [97, 98, 99, 100, 101, 102, 103, 104, 105, 106, 107, 108, 109, 110, 111, 112, 113, 114, 115, 116, 117, 118, 119, 120, 121, 122]))) nilA)))))
noncomputable def g_need_letters (c : CC) : FF := sealed (fnF 2 true (b_need_letters c))
theorem e_need_letters (c : CC) : g_need_letters c = fnF 2 true (b_need_letters c) := sealed_eq _
/-! need_scale: 0 scale, 1 number -/
noncomputable def b_need_scale (c : CC) : FS :=
  (seqS (dropS (cllE (Fn.g_need c) 1 (consA (op2 eqD (callE lenD (consA (vE 0) nilA)) (cE (.int 2))) nilA)))
  (forS (tupI (vE 0)) (nameG 1)
  (dropS (cllE (Fn.g_need c) 1 (consA (chE leD leD (cE (.int 1)) (vE 1) (cE (.int 9))) nilA)))))
noncomputable def g_need_scale (c : CC) : FF := sealed (fnF 2 true (b_need_scale c))
theorem e_need_scale (c : CC) : g_need_scale c = fnF 2 true (b_need_scale c) := sealed_eq _
/-! need_seeds: 0 seeds, 1 seed, 2 sign -/
noncomputable def b_need_seeds (c : CC) : FS :=
  (seqS (ifS (notT (toB (chE leD leD (cE (.int 1)) (callE lenD (consA (vE 0) nilA)) (cE (.int 3)))))
  neverS
  nilS)
  (forS (listI (vE 0)) (nameG 1)
  (seqS (ifS (orT (notT (toB (chE leD leD (cE (.int 1)) (callE lenD (consA (vE 1) nilA)) (cE (.int 8))))) (orT (toB (op2 neD (op2 ixD (vE 1) (cE (.int 0))) (cE (.str [35])))) (toB (op2 neD (op2 ixD (vE 1) (op1 negD (cE (.int 1)))) (cE (.str [35]))))))
  neverS
  nilS)
  (forS (strI (vE 1)) (nameG 2)
  (ifS (toB (op2 (inD true) (vE 2) (tupE (consA (cE (.str [35])) (consA (cE (.str [45])) nilA)))))
  neverS
  nilS)))))
noncomputable def g_need_seeds (c : CC) : FF := sealed (fnF 3 true (b_need_seeds c))
theorem e_need_seeds (c : CC) : g_need_seeds c = fnF 3 true (b_need_seeds c) := sealed_eq _
/-! Shelf_init: 0 self, 1 letters, 2 scale, 3 seeds, 4 seed -/
noncomputable def b_Shelf_init (c : CC) : FS :=
  (seqS (dropS (cllE (Fn.g_need_letters c) 1 (consA (vE 1) nilA)))
  (seqS (dropS (cllE (Fn.g_need_scale c) 1 (consA (vE 2) nilA)))
  (seqS (dropS (cllE (Fn.g_need_seeds c) 1 (consA (vE 3) nilA)))
  (seqS (fldS c.Shelf "letters" (vE 1) (vE 0))
  (seqS (fldS c.Shelf "scale" (callE tupleD (consA (vE 2) nilA)) (vE 0))
  (seqS (fldS c.Shelf "seeds" (callE (listD false) (consA (vE 3) nilA)) (vE 0))
  (seqS (fldS c.Shelf "bar" (cllE (Fn.g_bar c) 2 (consA (vE 3) (consA (vE 2) nilA))) (vE 0))
  (seqS (fldS c.Shelf "laid" (lstE true nilA) (vE 0))
  (fldS c.Shelf "shelves" (lcE false (listI (vE 3)) (nameG 4) yesT (dnewE false) [4]) (vE 0))))))))))
noncomputable def g_Shelf_init (c : CC) : FF := sealed (fnF 5 false (b_Shelf_init c))
theorem e_Shelf_init (c : CC) : g_Shelf_init c = fnF 5 false (b_Shelf_init c) := sealed_eq _
/-! need_row: 0 row, 1 letters, 2 sign -/
noncomputable def b_need_row (c : CC) : FS :=
  (seqS (dropS (cllE (Fn.g_need c) 1 (consA (op2 leD (callE lenD (consA (vE 0) nilA)) (cE (.int 60))) nilA)))
  (forS (strI (vE 0)) (nameG 2)
  (dropS (cllE (Fn.g_need c) 1 (consA (op2 (inD false) (vE 2) (vE 1)) nilA)))))
noncomputable def g_need_row (c : CC) : FF := sealed (fnF 3 true (b_need_row c))
theorem e_need_row (c : CC) : g_need_row c = fnF 3 true (b_need_row c) := sealed_eq _
/-! picked: 0 seed, 1 row, 2 place, 3 k -/
noncomputable def b_picked : FS :=
  (retS (mth1 joinD (cE (.str [])) (lcE false (rng1I (consA (callE lenD (consA (vE 0) nilA)) nilA)) (nameG 3) (toB (op2 eqD (op2 ixD (vE 0) (vE 3)) (cE (.str [35])))) (op2 ixD (vE 1) (op2 (addD false) (vE 2) (vE 3))) [3])))
noncomputable def g_picked : FF := sealed (fnF 4 true (b_picked))
theorem e_picked : g_picked = fnF 4 true (b_picked) := sealed_eq _
/-! Shelf_put_windows: 0 self, 1 k, 2 number, 3 begin, 4 end, 5 seed, 6 row, 7 many, 8 place, 9 key -/
noncomputable def b_Shelf_put_windows (c : CC) : FS :=
  (seqS (asgS (op2 ixD (op1 (fldD c.Shelf "seeds") (vE 0)) (vE 1)) (nameG 5))
  (seqS (asgS (op2 ixD (op1 (fldD c.Shelf "laid") (vE 0)) (vE 2)) (nameG 6))
  (seqS (asgS (cE (.int 0)) (nameG 7))
  (seqS (forS (rng2I (consA (callE max2D (consA (cE (.int 0)) (consA (vE 3) nilA))) (consA (callE min2D (consA (vE 4) (consA (op2 (addD false) (op2 subD (callE lenD (consA (vE 6) nilA)) (callE lenD (consA (vE 5) nilA))) (cE (.int 1))) nilA))) nilA))) (nameG 8)
  (seqS (asgS (cllE Fn.g_picked 3 (consA (vE 5) (consA (vE 6) (consA (vE 8) nilA)))) (nameG 9))
  (seqS (dputS (op2 (addD false) (dgetE (op2 ixD (op1 (fldD c.Shelf "shelves") (vE 0)) (vE 1)) (vE 9) (lstE false nilA)) (lstE false (consA (tupE (consA (vE 2) (consA (vE 8) nilA))) nilA))) (op2 ixD (op1 (fldD c.Shelf "shelves") (vE 0)) (vE 1)) (vE 9))
  (asgS (op2 (addD false) (vE 7) (cE (.int 1))) (nameG 7)))))
  (retS (vE 7))))))
noncomputable def g_Shelf_put_windows (c : CC) : FF := sealed (fnF 10 true (b_Shelf_put_windows c))
theorem e_Shelf_put_windows (c : CC) : g_Shelf_put_windows c = fnF 10 true (b_Shelf_put_windows c) := sealed_eq _
/-! Shelf_lay: 0 self, 1 row, 2 number, 3 k -/
noncomputable def b_Shelf_lay (c : CC) : FS :=
  (seqS (dropS (cllE (Fn.g_need_row c) 2 (consA (vE 1) (consA (op1 (fldD c.Shelf "letters") (vE 0)) nilA))))
  (seqS (dropS (mthL appendD (op1 (fldD c.Shelf "laid") (vE 0)) (consA (vE 1) nilA)))
  (seqS (asgS (op2 subD (callE lenD (consA (op1 (fldD c.Shelf "laid") (vE 0)) nilA)) (cE (.int 1))) (nameG 2))
  (seqS (forS (rng1I (consA (callE lenD (consA (op1 (fldD c.Shelf "seeds") (vE 0)) nilA)) nilA)) (nameG 3)
  (dropS (mthE c.Shelf "put_windows" (Fn.g_Shelf_put_windows c) 5 (vE 0) (consA (vE 3) (consA (vE 2) (consA (cE (.int 0)) (consA (callE lenD (consA (vE 1) nilA)) nilA)))))))
  (retS (vE 2))))))
noncomputable def g_Shelf_lay (c : CC) : FF := sealed (fnF 4 true (b_Shelf_lay c))
theorem e_Shelf_lay (c : CC) : g_Shelf_lay c = fnF 4 true (b_Shelf_lay c) := sealed_eq _
/-! Shelf_windows: 0 self, 1 found, 2 k, 3 key, 4 places, 5 number, 6 place -/
noncomputable def b_Shelf_windows (c : CC) : FS :=
  (seqS (asgS (lstE true nilA) (nameG 1))
  (seqS (forS (rng1I (consA (callE lenD (consA (op1 (fldD c.Shelf "seeds") (vE 0)) nilA)) nilA)) (nameG 2)
  (lockS (op2 ixD (op1 (fldD c.Shelf "shelves") (vE 0)) (vE 2)) (forS (itemsI (op2 ixD (op1 (fldD c.Shelf "shelves") (vE 0)) (vE 2))) (tupG 2 (consG (nameG 3) (consG (nameG 4) nilG)))
  (forS (listI (vE 4)) (tupG 2 (consG (nameG 5) (consG (nameG 6) nilG)))
  (dropS (mthL appendD (vE 1) (consA (tupE (consA (vE 2) (consA (vE 3) (consA (vE 5) (consA (vE 6) nilA))))) nilA)))))))
  (retS (callE (sortD false) (consA (vE 1) nilA)))))
noncomputable def g_Shelf_windows (c : CC) : FF := sealed (fnF 7 true (b_Shelf_windows c))
theorem e_Shelf_windows (c : CC) : g_Shelf_windows c = fnF 7 true (b_Shelf_windows c) := sealed_eq _
/-! law_windows: 0 _law_seeds_here, 1 _law_rows_here, 2 _law_found, 3 _law_k, 4 _law_number, 5 _law_place, 6 _law_signs, 7 _law_at -/
noncomputable def b_law_windows : FS :=
  (seqS (asgS (lstE true nilA) (nameG 2))
  (seqS (forS (rng1I (consA (callE lenD (consA (vE 0) nilA)) nilA)) (nameG 3)
  (forS (rng1I (consA (callE lenD (consA (vE 1) nilA)) nilA)) (nameG 4)
  (forS (rng1I (consA (op2 (addD false) (op2 subD (callE lenD (consA (op2 ixD (vE 1) (vE 4)) nilA)) (callE lenD (consA (op2 ixD (vE 0) (vE 3)) nilA))) (cE (.int 1))) nilA)) (nameG 5)
  (seqS (asgS (lcE false (rng1I (consA (callE lenD (consA (op2 ixD (vE 0) (vE 3)) nilA)) nilA)) (nameG 7) (toB (op2 eqD (op2 ixD (op2 ixD (vE 0) (vE 3)) (vE 7)) (cE (.str [35])))) (op2 ixD (op2 ixD (vE 1) (vE 4)) (op2 (addD false) (vE 5) (vE 7))) [7]) (nameG 6))
  (dropS (mthL appendD (vE 2) (consA (tupE (consA (vE 3) (consA (mth1 joinD (cE (.str [])) (vE 6)) (consA (vE 4) (consA (vE 5) nilA))))) nilA)))))))
  (retS (callE (sortD false) (consA (vE 2) nilA)))))
noncomputable def g_law_windows : FF := sealed (fnF 8 true (b_law_windows))
theorem e_law_windows : g_law_windows = fnF 8 true (b_law_windows) := sealed_eq _
/-! Shelf_rows: 0 self -/
noncomputable def b_Shelf_rows (c : CC) : FS :=
  (retS (callE (listD false) (consA (op1 (fldD c.Shelf "laid") (vE 0)) nilA)))
noncomputable def g_Shelf_rows (c : CC) : FF := sealed (fnF 1 true (b_Shelf_rows c))
theorem e_Shelf_rows (c : CC) : g_Shelf_rows c = fnF 1 true (b_Shelf_rows c) := sealed_eq _
/-! k10_law: 0 _law_script, 1 _law_h, 2 _law_letters_here, 3 _law_scale_here, 4 _law_seeds_here, 5 _law_rows_here, 6 _law_handed, 7 _law_shelf_here, 8 _law_other, 9 _law_k, 10 _law_turn, 11 _law_found, 12 _law_one -/
noncomputable def b_k10_law (c : CC) : FS :=
  (seqS (asgS (lstE true (consA (cE (.int 43)) (consA (callE (listD true) (consA (vE 0) nilA)) (consA (cE (.int 0)) nilA)))) (nameG 1))
  (seqS (asgS (cllE Fn.g_law_letters 1 (consA (vE 1) nilA)) (nameG 2))
  (seqS (asgS (cllE Fn.g_law_scale 1 (consA (vE 1) nilA)) (nameG 3))
  (seqS (asgS (cllE Fn.g_law_seeds 2 (consA (vE 1) (consA (cE (.int 8)) nilA))) (nameG 4))
  (seqS (ifS (toB (op2 eqD (cllE Fn.g_law_next 2 (consA (vE 1) (consA (cE (.int 4)) nilA))) (cE (.int 0))))
  (asgS (op2 (addD false) (slE false (vE 4) noO (someO (cE (.int 2)))) (slE false (vE 4) noO (someO (cE (.int 1))))) (nameG 4))
  nilS)
  (seqS (asgS (cllE Fn.g_law_rows 3 (consA (vE 1) (consA (vE 2) (consA (op2 ixD (lstE false (consA (cE (.int 4)) (consA (cE (.int 4)) (consA (cE (.int 7)) nilA)))) (cllE Fn.g_law_next 2 (consA (vE 1) (consA (cE (.int 3)) nilA)))) nilA)))) (nameG 5))
  (seqS (asgS (callE (listD true) (consA (vE 4) nilA)) (nameG 6))
  (seqS (asgS (makeE c.Shelf (Fn.g_Shelf_init c) 4 (consA (vE 2) (consA (vE 3) (consA (vE 6) nilA)))) (nameG 7))
  (seqS (dropS (mthL appendD (vE 6) (consA (cE (.str [35, 35])) nilA)))
  (seqS (asgS (makeE c.Shelf (Fn.g_Shelf_init c) 4 (consA (vE 2) (consA (vE 3) (consA (lstE false (consA (cE (.str [35])) nilA)) nilA)))) (nameG 8))
  (seqS (forS (rng1I (consA (callE lenD (consA (vE 5) nilA)) nilA)) (nameG 9)
  (seqS (ifS (notT (toB (cllE (Fn.g_law_same 8) 2 (consA (mthE c.Shelf "lay" (Fn.g_Shelf_lay c) 2 (vE 7) (consA (op2 ixD (vE 5) (vE 9)) nilA)) (consA (vE 9) nilA)))))
  (retS (cE (.bl false)))
  nilS)
  (dropS (mthE c.Shelf "lay" (Fn.g_Shelf_lay c) 2 (vE 8) (consA (op2 ixD (vE 5) (cE (.int 0))) nilA)))))
  (seqS (forS (rng1I (consA (cE (.int 2)) nilA)) (nameG 10)
  (seqS (asgS (lstE false (consA (mthE c.Shelf "rows" (Fn.g_Shelf_rows c) 1 (vE 7) nilA) (consA (mthE c.Shelf "windows" (Fn.g_Shelf_windows c) 1 (vE 7) nilA) nilA))) (nameG 11))
  (seqS (ifS (orT (notT (toB (cllE (Fn.g_law_same 8) 2 (consA (op2 ixD (vE 11) (cE (.int 0))) (consA (vE 5) nilA))))) (notT (toB (cllE (Fn.g_law_same 8) 2 (consA (op2 ixD (vE 11) (cE (.int 1))) (consA (cllE Fn.g_law_windows 2 (consA (vE 4) (consA (vE 5) nilA))) nilA))))))
  (retS (cE (.bl false)))
  nilS)
  (forS (listI (vE 11)) (nameG 12)
  (dropS (mthL appendD (vE 12) (consA (tupE nilA) nilA)))))))
  (retS (op2 eqD (mthE c.Shelf "windows" (Fn.g_Shelf_windows c) 1 (vE 8) nilA) (cllE Fn.g_law_windows 2 (consA (lstE false (consA (cE (.str [35])) nilA)) (consA (op2 mulSD (slE false (vE 5) noO (someO (cE (.int 1)))) (callE lenD (consA (vE 5) nilA))) nilA)))))))))))))))))
noncomputable def g_k10_law (c : CC) : FF := sealed (fnF 13 false (b_k10_law c))
theorem e_k10_law (c : CC) : g_k10_law c = fnF 13 false (b_k10_law c) := sealed_eq _
/-! law_shelf: 0 _law_letters_here, 1 _law_scale_here, 2 _law_seeds_here, 3 _law_rows_here, 4 _law_shelf_here, 5 _law_row_here -/
noncomputable def b_law_shelf (c : CC) : FS :=
  (seqS (asgS (makeE c.Shelf (Fn.g_Shelf_init c) 4 (consA (vE 0) (consA (vE 1) (consA (callE (listD false) (consA (vE 2) nilA)) nilA)))) (nameG 4))
  (seqS (forS (listI (vE 3)) (nameG 5)
  (dropS (mthE c.Shelf "lay" (Fn.g_Shelf_lay c) 2 (vE 4) (consA (vE 5) nilA))))
  (retS (vE 4))))
noncomputable def g_law_shelf (c : CC) : FF := sealed (fnF 6 false (b_law_shelf c))
theorem e_law_shelf (c : CC) : g_law_shelf c = fnF 6 false (b_law_shelf c) := sealed_eq _
/-! law_due: 0 _law_row_here, 1 _law_rows_here, 2 _law_scale_here, 3 _law_told, 4 _law_found, 5 _law_number, 6 _law_shift, 7 _law_begin, 8 _law_end, 9 _law_worth_here, 10 _law_likes, 11 _law_ahead -/
noncomputable def b_law_due : FS :=
  (seqS (asgS (lstE true nilA) (nameG 4))
  (seqS (forS (rng1I (consA (callE lenD (consA (vE 1) nilA)) nilA)) (nameG 5)
  (forS (listI (cllE Fn.g_law_reaches 4 (consA (vE 0) (consA (op2 ixD (vE 1) (vE 5)) (consA (vE 2) (consA (vE 3) nilA)))))) (tupG 3 (consG (nameG 6) (consG (nameG 7) (consG (nameG 8) nilG))))
  (seqS (asgS (cllE Fn.g_law_lane 3 (consA (vE 0) (consA (op2 ixD (vE 1) (vE 5)) (consA (vE 6) nilA)))) (tupG 2 (consG (nameG 10) (consG (nameG 11) nilG))))
  (seqS (asgS (cllE Fn.g_law_worth 2 (consA (slE false (vE 10) (someO (op2 subD (vE 7) (vE 11))) (someO (op2 subD (vE 8) (vE 11)))) (consA (vE 2) nilA))) (nameG 9))
  (dropS (mthL appendD (vE 4) (consA (tupE (consA (vE 5) (consA (vE 6) (consA (vE 7) (consA (vE 8) (consA (vE 9) nilA)))))) nilA)))))))
  (retS (callE (sortD false) (consA (vE 4) nilA)))))
noncomputable def g_law_due : FF := sealed (fnF 12 true (b_law_due))
theorem e_law_due : g_law_due = fnF 12 true (b_law_due) := sealed_eq _
/-! is_above: 0 told, 1 found -/
noncomputable def b_is_above : FS :=
  (retS (andE (op2 eqD (op2 ixD (vE 1) (cE (.int 0))) (cE (.str [98, 97, 114]))) (op2 gtD (vE 0) (op2 ixD (vE 1) (cE (.int 1))))))
noncomputable def g_is_above : FF := sealed (fnF 2 true (b_is_above))
theorem e_is_above : g_is_above = fnF 2 true (b_is_above) := sealed_eq _
/-! Shelf_need_above: 0 self, 1 told -/
noncomputable def b_Shelf_need_above (c : CC) : FS :=
  (ifS (notT (toB (cllE Fn.g_is_above 2 (consA (vE 1) (consA (op1 (fldD c.Shelf "bar") (vE 0)) nilA)))))
  neverS
  nilS)
noncomputable def g_Shelf_need_above (c : CC) : FF := sealed (fnF 2 true (b_Shelf_need_above c))
theorem e_Shelf_need_above (c : CC) : g_Shelf_need_above c = fnF 2 true (b_Shelf_need_above c) := sealed_eq _
/-! Shelf_lanes: 0 self, 1 row, 2 found, 3 k, 4 seed, 5 place, 6 number, 7 other -/
noncomputable def b_Shelf_lanes (c : CC) : FS :=
  (seqS (asgS (dnewE true) (nameG 2))
  (seqS (forS (rng1I (consA (callE lenD (consA (op1 (fldD c.Shelf "seeds") (vE 0)) nilA)) nilA)) (nameG 3)
  (seqS (asgS (op2 ixD (op1 (fldD c.Shelf "seeds") (vE 0)) (vE 3)) (nameG 4))
  (forS (rng1I (consA (op2 (addD false) (op2 subD (callE lenD (consA (vE 1) nilA)) (callE lenD (consA (vE 4) nilA))) (cE (.int 1))) nilA)) (nameG 5)
  (forS (listI (dgetE (op2 ixD (op1 (fldD c.Shelf "shelves") (vE 0)) (vE 3)) (cllE Fn.g_picked 3 (consA (vE 4) (consA (vE 1) (consA (vE 5) nilA)))) (lstE false nilA))) (tupG 2 (consG (nameG 6) (consG (nameG 7) nilG)))
  (dputS (cE (.bl true)) (vE 2) (tupE (consA (vE 6) (consA (op2 subD (vE 7) (vE 5)) nilA))))))))
  (retS (callE (sortD false) (consA (callE (keysD false) (consA (vE 2) nilA)) nilA)))))
noncomputable def g_Shelf_lanes (c : CC) : FF := sealed (fnF 8 true (b_Shelf_lanes c))
theorem e_Shelf_lanes (c : CC) : g_Shelf_lanes c = fnF 8 true (b_Shelf_lanes c) := sealed_eq _
/-! Shelf_find: 0 self, 1 row, 2 told, 3 found, 4 number, 5 shift, 6 other, 7 likes, 8 ahead, 9 same, 10 begin, 11 end, 12 worth -/
noncomputable def b_Shelf_find (c : CC) : FS :=
  (seqS (dropS (cllE (Fn.g_need_row c) 2 (consA (vE 1) (consA (op1 (fldD c.Shelf "letters") (vE 0)) nilA))))
  (seqS (dropS (mthE c.Shelf "need_above" (Fn.g_Shelf_need_above c) 2 (vE 0) (consA (vE 2) nilA)))
  (seqS (asgS (lstE true nilA) (nameG 3))
  (seqS (forS (listI (mthE c.Shelf "lanes" (Fn.g_Shelf_lanes c) 2 (vE 0) (consA (vE 1) nilA))) (tupG 2 (consG (nameG 4) (consG (nameG 5) nilG)))
  (seqS (asgS (op2 ixD (op1 (fldD c.Shelf "laid") (vE 0)) (vE 4)) (nameG 6))
  (seqS (asgS (cllE Fn.g_likes_of 3 (consA (vE 1) (consA (vE 6) (consA (vE 5) nilA)))) (nameG 7))
  (seqS (asgS (callE max2D (consA (cE (.int 0)) (consA (op2 subD (cE (.int 0)) (vE 5)) nilA))) (nameG 8))
  (forS (listI (cllE (Fn.g_ripe_above c) 5 (consA (vE 1) (consA (vE 6) (consA (vE 5) (consA (op1 (fldD c.Shelf "scale") (vE 0)) (consA (vE 2) nilA))))))) (tupG 3 (consG (nameG 9) (consG (nameG 10) (consG (nameG 11) nilG))))
  (seqS (asgS (cllE Fn.g_worth_of 2 (consA (slE false (vE 7) (someO (op2 subD (vE 10) (vE 8))) (someO (op2 subD (vE 11) (vE 8)))) (consA (op1 (fldD c.Shelf "scale") (vE 0)) nilA))) (nameG 12))
  (dropS (mthL appendD (vE 3) (consA (tupE (consA (vE 4) (consA (vE 5) (consA (vE 10) (consA (vE 11) (consA (vE 12) nilA)))))) nilA)))))))))
  (retS (callE (sortD true) (consA (vE 3) nilA)))))))
noncomputable def g_Shelf_find (c : CC) : FF := sealed (fnO 13 (b_Shelf_find c))
theorem e_Shelf_find (c : CC) : g_Shelf_find c = fnO 13 (b_Shelf_find c) := sealed_eq _
/-! k13_law: 0 _law_script, 1 _law_h, 2 _law_letters_here, 3 _law_seeds_here, 4 _law_scale_here, 5 _law_rows_here, 6 _law_row_here, 7 _law_found, 8 _law_shelf_here, 9 _law_told, 10 _law_due_here, 11 _law_found_here -/
noncomputable def b_k13_law (c : CC) : FS :=
  (seqS (asgS (lstE true (consA (cE (.int 59)) (consA (callE (listD true) (consA (vE 0) nilA)) (consA (cE (.int 0)) nilA)))) (nameG 1))
  (seqS (asgS (cllE Fn.g_law_letters 1 (consA (vE 1) nilA)) (nameG 2))
  (seqS (asgS (cllE Fn.g_law_seeds 2 (consA (vE 1) (consA (cE (.int 6)) nilA))) (nameG 3))
  (seqS (asgS (cllE Fn.g_law_scale 1 (consA (vE 1) nilA)) (nameG 4))
  (seqS (ifS (toB (op2 eqD (op2 ixD (cllE (Fn.g_bar c) 2 (consA (vE 3) (consA (vE 4) nilA))) (cE (.int 0))) (cE (.str [101, 110, 100, 108, 101, 115, 115]))))
  (seqS (asgS (tupE (consA (cE (.int 1)) (consA (cE (.int 9)) nilA))) (nameG 4))
  (asgS (op2 (addD false) (lstE false (consA (op2 mulSD (cE (.str [35])) (op2 (addD false) (cE (.int 1)) (cllE Fn.g_law_next 2 (consA (vE 1) (consA (cE (.int 5)) nilA))))) nilA)) (slE false (vE 3) noO (someO (cllE Fn.g_law_next 2 (consA (vE 1) (consA (cE (.int 3)) nilA)))))) (nameG 3)))
  nilS)
  (seqS (asgS (cllE Fn.g_law_rows 3 (consA (vE 1) (consA (vE 2) (consA (op2 ixD (lstE false (consA (cE (.int 3)) (consA (cE (.int 3)) (consA (cE (.int 7)) nilA)))) (cllE Fn.g_law_next 2 (consA (vE 1) (consA (cE (.int 3)) nilA)))) nilA)))) (nameG 5))
  (seqS (asgS (cllE Fn.g_law_row 3 (consA (vE 1) (consA (vE 2) (consA (cE (.int 40)) nilA)))) (nameG 6))
  (seqS (ifS (andT (toB (op2 neD (vE 5) (lstE false nilA))) (toB (op2 gtD (cllE Fn.g_law_next 2 (consA (vE 1) (consA (cE (.int 4)) nilA))) (cE (.int 0)))))
  (asgS (cllE Fn.g_law_near 3 (consA (vE 1) (consA (op2 ixD (vE 5) (cllE Fn.g_law_next 2 (consA (vE 1) (consA (callE lenD (consA (vE 5) nilA)) nilA)))) (consA (vE 2) nilA)))) (nameG 6))
  nilS)
  (seqS (asgS (cllE (Fn.g_bar c) 2 (consA (vE 3) (consA (vE 4) nilA))) (nameG 7))
  (seqS (asgS (cllE (Fn.g_law_shelf c) 4 (consA (vE 2) (consA (vE 4) (consA (vE 3) (consA (vE 5) nilA))))) (nameG 8))
  (seqS (forS (listI (lstE false (consA (op2 (addD false) (op2 ixD (vE 7) (cE (.int 1))) (cE (.int 1))) (consA (op2 (addD false) (op2 (addD false) (op2 ixD (vE 7) (cE (.int 1))) (cE (.int 1))) (cllE Fn.g_law_next 2 (consA (vE 1) (consA (cE (.int 20)) nilA)))) nilA)))) (nameG 9)
  (seqS (asgS (cllE Fn.g_law_due 4 (consA (vE 6) (consA (vE 5) (consA (vE 4) (consA (vE 9) nilA))))) (nameG 10))
  (seqS (asgS (mthE c.Shelf "find" (Fn.g_Shelf_find c) 3 (vE 8) (consA (vE 6) (consA (vE 9) nilA))) (nameG 11))
  (seqS (ifS (notT (toB (cllE (Fn.g_law_same 8) 2 (consA (vE 11) (consA (vE 10) nilA)))))
  (retS (cE (.bl false)))
  nilS)
  (seqS (dropS (mthL appendD (vE 11) (consA (tupE nilA) nilA)))
  (ifS (toB (op2 neD (mthE c.Shelf "find" (Fn.g_Shelf_find c) 3 (vE 8) (consA (vE 6) (consA (vE 9) nilA))) (vE 10)))
  (retS (cE (.bl false)))
  nilS))))))
  (retS (op2 eqD (mthE c.Shelf "rows" (Fn.g_Shelf_rows c) 1 (vE 8) nilA) (vE 5))))))))))))))
noncomputable def g_k13_law (c : CC) : FF := sealed (fnF 12 false (b_k13_law c))
theorem e_k13_law (c : CC) : g_k13_law c = fnF 12 false (b_k13_law c) := sealed_eq _
/-! law_case: 0 _law_h, 1 _law_letters_here, 2 _law_seeds_here, 3 _law_scale_here -/
noncomputable def b_law_case (c : CC) : FS :=
  (seqS (asgS (cllE Fn.g_law_seeds 2 (consA (vE 0) (consA (cE (.int 6)) nilA))) (nameG 2))
  (seqS (asgS (cllE Fn.g_law_scale 1 (consA (vE 0) nilA)) (nameG 3))
  (seqS (ifS (toB (op2 eqD (op2 ixD (cllE (Fn.g_bar c) 2 (consA (vE 2) (consA (vE 3) nilA))) (cE (.int 0))) (cE (.str [101, 110, 100, 108, 101, 115, 115]))))
  (seqS (asgS (tupE (consA (cE (.int 1)) (consA (cE (.int 9)) nilA))) (nameG 3))
  (asgS (op2 (addD false) (lstE false (consA (op2 mulSD (cE (.str [35])) (op2 (addD false) (cE (.int 1)) (cllE Fn.g_law_next 2 (consA (vE 0) (consA (cE (.int 5)) nilA))))) nilA)) (slE false (vE 2) noO (someO (cllE Fn.g_law_next 2 (consA (vE 0) (consA (cE (.int 3)) nilA)))))) (nameG 2)))
  nilS)
  (retS (tupE (consA (vE 2) (consA (vE 3) (consA (op2 ixD (cllE (Fn.g_bar c) 2 (consA (vE 2) (consA (vE 3) nilA))) (cE (.int 1))) nilA))))))))
noncomputable def g_law_case (c : CC) : FF := sealed (fnF 4 true (b_law_case c))
theorem e_law_case (c : CC) : g_law_case c = fnF 4 true (b_law_case c) := sealed_eq _
/-! law_paper: 0 _law_one, 1 _law_other, 2 _law_shift, 3 _law_seeds_here, 4 _law_scale_here, 5 _law_told, 6 _law_rows, 7 _law_best, 8 _law_unlike, 9 _law_seed_here, 10 _law_likes, 11 _law_ahead, 12 _law_begin, 13 _law_end, 14 _law_worth_here, 15 _law_place, 16 _law_at, 17 _law_k -/
noncomputable def b_law_paper : FS :=
  (seqS (asgS (cllE Fn.g_law_lane 3 (consA (vE 0) (consA (vE 1) (consA (vE 2) nilA)))) (tupG 2 (consG (nameG 10) (consG (nameG 11) nilG))))
  (seqS (asgS (lstE true nilA) (nameG 6))
  (seqS (asgS (cE (.int 0)) (nameG 7))
  (seqS (forS (listI (cllE Fn.g_law_ripe 2 (consA (vE 10) (consA (vE 4) nilA)))) (tupG 2 (consG (nameG 12) (consG (nameG 13) nilG)))
  (seqS (asgS (cllE Fn.g_law_worth 2 (consA (slE false (vE 10) (someO (vE 12)) (someO (vE 13))) (consA (vE 4) nilA))) (nameG 14))
  (seqS (asgS (callE max2D (consA (vE 7) (consA (vE 14) nilA))) (nameG 7))
  (ifS (toB (op2 geD (vE 14) (vE 5)))
  (dropS (mthL appendD (vE 6) (consA (tupE (consA (vE 2) (consA (op2 (addD false) (vE 11) (vE 12)) (consA (op2 (addD false) (vE 11) (vE 13)) nilA)))) nilA)))
  nilS))))
  (seqS (ifS (toB (op2 neD (vE 6) (lstE false nilA)))
  (retS (tupE (consA (cE (.str [114, 101, 97, 99, 104, 101, 115])) (consA (frzE (vE 6)) nilA))))
  nilS)
  (seqS (ifS (toB (cllE Fn.g_law_seeded 2 (consA (vE 3) (consA (vE 10) nilA))))
  (retS (tupE (consA (cE (.str [108, 111, 119])) (consA (vE 7) nilA))))
  nilS)
  (seqS (asgS (lstE true nilA) (nameG 8))
  (seqS (forS (listI (vE 3)) (nameG 9)
  (forS (rng1I (consA (op2 (addD false) (op2 subD (callE lenD (consA (vE 10) nilA)) (callE lenD (consA (vE 9) nilA))) (cE (.int 1))) nilA)) (nameG 15)
  (seqS (asgS (op2 ixD (lcE false (rng1I (consA (callE lenD (consA (vE 9) nilA)) nilA)) (nameG 17) (andT (toB (op2 eqD (op2 ixD (vE 9) (vE 17)) (cE (.str [35])))) (toB (op2 eqD (op2 ixD (vE 10) (op2 (addD false) (vE 15) (vE 17))) (cE (.str [47]))))) (vE 17) [17]) (cE (.int 0))) (nameG 16))
  (dropS (mthL appendD (vE 8) (consA (op2 (addD false) (op2 (addD false) (vE 11) (vE 15)) (vE 16)) nilA))))))
  (retS (tupE (consA (cE (.str [117, 110, 115, 101, 101, 100, 101, 100])) (consA (frzE (vE 8)) nilA))))))))))))
noncomputable def g_law_paper : FF := sealed (fnF 18 true (b_law_paper))
theorem e_law_paper : g_law_paper = fnF 18 true (b_law_paper) := sealed_eq _
/-! ripe_above_2: 0 one, 1 other, 2 shift, 3 scale, 4 told, 5 begin, 6 likes, 7 found, 8 first, 9 last -/
noncomputable def b_ripe_above_2 (c : CC) : FS :=
  (seqS (asgS (op2 ixD (cllE Fn.g_lane_bounds 3 (consA (vE 0) (consA (vE 1) (consA (vE 2) nilA)))) (cE (.int 0))) (nameG 5))
  (seqS (asgS (cllE Fn.g_likes_of 3 (consA (vE 0) (consA (vE 1) (consA (vE 2) nilA)))) (nameG 6))
  (seqS (asgS (lstE true nilA) (nameG 7))
  (seqS (forS (listI (cllE (Fn.g_ripe c) 2 (consA (vE 6) (consA (vE 3) nilA)))) (tupG 2 (consG (nameG 8) (consG (nameG 9) nilG)))
  (ifS (toB (op2 geD (cllE Fn.g_worth_of 2 (consA (slE false (vE 6) (someO (vE 8)) (someO (vE 9))) (consA (vE 3) nilA))) (vE 4)))
  (dropS (mthL appendD (vE 7) (consA (tupE (consA (vE 2) (consA (op2 (addD false) (vE 5) (vE 8)) (consA (op2 (addD false) (vE 5) (vE 9)) nilA)))) nilA)))
  nilS))
  (retS (vE 7))))))
noncomputable def g_ripe_above_2 (c : CC) : FF := sealed (fnO 10 (b_ripe_above_2 c))
theorem e_ripe_above_2 (c : CC) : g_ripe_above_2 c = fnO 10 (b_ripe_above_2 c) := sealed_eq _
/-! greatest: 0 likes, 1 scale, 2 first, 3 last -/
noncomputable def b_greatest (c : CC) : FS :=
  (retS (callE maxLD (consA (lcE false (listI (cllE (Fn.g_ripe c) 2 (consA (vE 0) (consA (vE 1) nilA)))) (tupG 2 (consG (nameG 2) (consG (nameG 3) nilG))) yesT (cllE Fn.g_worth_of 2 (consA (slE false (vE 0) (someO (vE 2)) (someO (vE 3))) (consA (vE 1) nilA))) [2, 3]) nilA)))
noncomputable def g_greatest (c : CC) : FF := sealed (fnF 4 true (b_greatest c))
theorem e_greatest (c : CC) : g_greatest c = fnF 4 true (b_greatest c) := sealed_eq _
/-! first_unlike: 0 seed, 1 likes, 2 place, 3 k -/
noncomputable def b_first_unlike : FS :=
  (retS (op2 ixD (lcE false (rng1I (consA (callE lenD (consA (vE 0) nilA)) nilA)) (nameG 3) (andT (toB (op2 eqD (op2 ixD (vE 0) (vE 3)) (cE (.str [35])))) (toB (op2 eqD (op2 ixD (vE 1) (op2 (addD false) (vE 2) (vE 3))) (cE (.str [47]))))) (op2 (addD false) (vE 2) (vE 3)) [3]) (cE (.int 0))))
noncomputable def g_first_unlike : FF := sealed (fnF 4 true (b_first_unlike))
theorem e_first_unlike : g_first_unlike = fnF 4 true (b_first_unlike) := sealed_eq _
/-! unlike_places: 0 seeds, 1 likes, 2 begin, 3 found, 4 seed, 5 place -/
noncomputable def b_unlike_places : FS :=
  (seqS (asgS (lstE true nilA) (nameG 3))
  (seqS (forS (listI (vE 0)) (nameG 4)
  (forS (rng1I (consA (op2 (addD false) (op2 subD (callE lenD (consA (vE 1) nilA)) (callE lenD (consA (vE 4) nilA))) (cE (.int 1))) nilA)) (nameG 5)
  (dropS (mthL appendD (vE 3) (consA (op2 (addD false) (vE 2) (cllE Fn.g_first_unlike 3 (consA (vE 4) (consA (vE 1) (consA (vE 5) nilA))))) nilA)))))
  (retS (vE 3))))
noncomputable def g_unlike_places : FF := sealed (fnO 6 (b_unlike_places))
theorem e_unlike_places : g_unlike_places = fnO 6 (b_unlike_places) := sealed_eq _
/-! lane: 0 one, 1 other, 2 shift, 3 seeds, 4 scale, 5 told, 6 found, 7 rows, 8 likes -/
noncomputable def b_lane (c : CC) : FS :=
  (seqS (dropS (cllE (Fn.g_need_seeds c) 1 (consA (vE 3) nilA)))
  (seqS (asgS (cllE (Fn.g_bar c) 2 (consA (vE 3) (consA (vE 4) nilA))) (nameG 6))
  (seqS (ifS (notT (toB (cllE Fn.g_is_above 2 (consA (vE 5) (consA (vE 6) nilA)))))
  neverS
  nilS)
  (seqS (asgS (cllE (Fn.g_ripe_above_2 c) 5 (consA (vE 0) (consA (vE 1) (consA (vE 2) (consA (vE 4) (consA (vE 5) nilA)))))) (nameG 7))
  (seqS (ifS (toB (op2 neD (vE 7) (lstE false nilA)))
  (retS (tupE (consA (cE (.str [114, 101, 97, 99, 104, 101, 115])) (consA (vE 7) nilA))))
  nilS)
  (seqS (asgS (cllE Fn.g_likes_of 3 (consA (vE 0) (consA (vE 1) (consA (vE 2) nilA)))) (nameG 8))
  (seqS (ifS (notT (toB (cllE Fn.g_is_seeded 2 (consA (vE 3) (consA (vE 8) nilA)))))
  (retS (tupE (consA (cE (.str [117, 110, 115, 101, 101, 100, 101, 100])) (consA (cllE Fn.g_unlike_places 3 (consA (vE 3) (consA (vE 8) (consA (op2 ixD (cllE Fn.g_lane_bounds 3 (consA (vE 0) (consA (vE 1) (consA (vE 2) nilA)))) (cE (.int 0))) nilA)))) nilA))))
  nilS)
  (retS (tupE (consA (cE (.str [108, 111, 119])) (consA (cllE (Fn.g_greatest c) 2 (consA (vE 8) (consA (vE 4) nilA))) nilA)))))))))))
noncomputable def g_lane (c : CC) : FF := sealed (fnF 9 false (b_lane c))
theorem e_lane (c : CC) : g_lane c = fnF 9 false (b_lane c) := sealed_eq _
/-! k15_law: 0 _law_script, 1 _law_h, 2 _law_letters_here, 3 _law_one, 4 _law_other, 5 _law_turn, 6 _law_seeds_here, 7 _law_scale_here, 8 _law_most, 9 _law_shift, 10 _law_told, 11 _law_due, 12 _law_found -/
noncomputable def b_k15_law (c : CC) : FS :=
  (seqS (asgS (lstE true (consA (cE (.int 67)) (consA (callE (listD true) (consA (vE 0) nilA)) (consA (cE (.int 0)) nilA)))) (nameG 1))
  (seqS (asgS (cllE Fn.g_law_letters 1 (consA (vE 1) nilA)) (nameG 2))
  (seqS (asgS (cllE (Fn.g_law_case c) 2 (consA (vE 1) (consA (vE 2) nilA))) (tupG 3 (consG (nameG 6) (consG (nameG 7) (consG (nameG 8) nilG)))))
  (seqS (asgS (cllE Fn.g_law_row 3 (consA (vE 1) (consA (vE 2) (consA (cE (.int 30)) nilA)))) (nameG 3))
  (seqS (asgS (op2 ixD (lstE false (consA (cllE Fn.g_law_row 3 (consA (vE 1) (consA (vE 2) (consA (cE (.int 30)) nilA)))) (consA (cllE Fn.g_law_near 3 (consA (vE 1) (consA (vE 3) (consA (vE 2) nilA)))) nilA))) (cllE Fn.g_law_next 2 (consA (vE 1) (consA (cE (.int 2)) nilA)))) (nameG 4))
  (seqS (forS (rng1I (consA (cE (.int 10)) nilA)) (nameG 5)
  (seqS (asgS (ifE (toB (op2 ltD (vE 5) (cE (.int 3)))) (op2 subD (cllE Fn.g_law_next 2 (consA (vE 1) (consA (cE (.int 81)) nilA))) (cE (.int 40))) (op2 subD (cllE Fn.g_law_next 2 (consA (vE 1) (consA (cE (.int 13)) nilA))) (cE (.int 6)))) (nameG 9))
  (seqS (asgS (op2 (addD false) (op2 (addD false) (vE 8) (cE (.int 1))) (cllE Fn.g_law_next 2 (consA (vE 1) (consA (op2 ixD (lstE false (consA (cE (.int 2)) (consA (cE (.int 20)) nilA))) (cllE Fn.g_law_next 2 (consA (vE 1) (consA (cE (.int 2)) nilA)))) nilA)))) (nameG 10))
  (seqS (asgS (cllE Fn.g_law_paper 6 (consA (vE 3) (consA (vE 4) (consA (vE 9) (consA (vE 6) (consA (vE 7) (consA (vE 10) nilA))))))) (nameG 11))
  (seqS (asgS (cllE (Fn.g_lane c) 6 (consA (vE 3) (consA (vE 4) (consA (vE 9) (consA (vE 6) (consA (vE 7) (consA (vE 10) nilA))))))) (nameG 12))
  (seqS (ifS (notT (toB (cllE (Fn.g_law_same 8) 2 (consA (vE 12) (consA (vE 11) nilA)))))
  (retS (cE (.bl false)))
  nilS)
  (seqS (ifS (toB (callE isiF (consA (op2 ixD (vE 12) (cE (.int 1))) (consA (cE (.ty "list")) nilA))))
  (dropS (mthL appendD (op2 ixD (vE 12) (cE (.int 1))) (consA (cE (.int 0)) nilA)))
  nilS)
  (ifS (toB (op2 neD (cllE (Fn.g_lane c) 6 (consA (vE 3) (consA (vE 4) (consA (vE 9) (consA (vE 6) (consA (vE 7) (consA (vE 10) nilA))))))) (vE 11)))
  (retS (cE (.bl false)))
  nilS))))))))
  (retS (cE (.bl true)))))))))
noncomputable def g_k15_law (c : CC) : FF := sealed (fnF 13 false (b_k15_law c))
theorem e_k15_law (c : CC) : g_k15_law c = fnF 13 false (b_k15_law c) := sealed_eq _
/-! Shelf_find_2: 0 self, 1 row, 2 told, 3 found, 4 number, 5 shift, 6 other, 7 likes, 8 ahead, 9 same, 10 begin, 11 end, 12 worth -/
noncomputable def b_Shelf_find_2 (c : CC) : FS :=
  (seqS (dropS (cllE (Fn.g_need_row c) 2 (consA (vE 1) (consA (op1 (fldD c.Shelf "letters") (vE 0)) nilA))))
  (seqS (dropS (mthE c.Shelf "need_above" (Fn.g_Shelf_need_above c) 2 (vE 0) (consA (vE 2) nilA)))
  (seqS (asgS (lstE true nilA) (nameG 3))
  (seqS (forS (listI (mthE c.Shelf "lanes" (Fn.g_Shelf_lanes c) 2 (vE 0) (consA (vE 1) nilA))) (tupG 2 (consG (nameG 4) (consG (nameG 5) nilG)))
  (seqS (asgS (op2 ixD (op1 (fldD c.Shelf "laid") (vE 0)) (vE 4)) (nameG 6))
  (seqS (asgS (cllE Fn.g_likes_of 3 (consA (vE 1) (consA (vE 6) (consA (vE 5) nilA)))) (nameG 7))
  (seqS (asgS (callE max2D (consA (cE (.int 0)) (consA (op2 subD (cE (.int 0)) (vE 5)) nilA))) (nameG 8))
  (forS (listI (cllE (Fn.g_ripe_above c) 5 (consA (vE 1) (consA (vE 6) (consA (vE 5) (consA (op1 (fldD c.Shelf "scale") (vE 0)) (consA (vE 2) nilA))))))) (tupG 3 (consG (nameG 9) (consG (nameG 10) (consG (nameG 11) nilG))))
  (seqS (asgS (cllE Fn.g_worth_of 2 (consA (slE false (vE 7) (someO (op2 subD (vE 10) (vE 8))) (someO (op2 subD (vE 11) (vE 8)))) (consA (op1 (fldD c.Shelf "scale") (vE 0)) nilA))) (nameG 12))
  (dropS (mthL appendD (vE 3) (consA (tupE (consA (vE 4) (consA (vE 5) (consA (vE 10) (consA (vE 11) (consA (vE 12) nilA)))))) nilA)))))))))
  (retS (callE (sortD false) (consA (vE 3) nilA)))))))
noncomputable def g_Shelf_find_2 (c : CC) : FF := sealed (fnF 13 true (b_Shelf_find_2 c))
theorem e_Shelf_find_2 (c : CC) : g_Shelf_find_2 c = fnF 13 true (b_Shelf_find_2 c) := sealed_eq _
/-! pairs: 0 shelf, 1 told, 2 rows, 3 found, 4 left, 5 rest, 6 i, 7 best, 8 j, 9 shift, 10 begin, 11 end, 12 worth, 13 most -/
noncomputable def b_pairs (c : CC) : FS :=
  (seqS (dropS (mthE c.Shelf "need_above" (Fn.g_Shelf_need_above c) 2 (vE 0) (consA (vE 1) nilA)))
  (seqS (asgS (mthE c.Shelf "rows" (Fn.g_Shelf_rows c) 1 (vE 0) nilA) (nameG 2))
  (seqS (asgS (lstE true nilA) (nameG 3))
  (seqS (asgS (lstE true nilA) (nameG 4))
  (seqS (asgS (lstE true nilA) (nameG 5))
  (seqS (forS (rng1I (consA (callE lenD (consA (vE 2) nilA)) nilA)) (nameG 6)
  (seqS (asgS (dnewE false) (nameG 7))
  (seqS (forS (listI (mthE c.Shelf "find" (Fn.g_Shelf_find_2 c) 3 (vE 0) (consA (op2 ixD (vE 2) (vE 6)) (consA (vE 1) nilA)))) (tupG 5 (consG (nameG 8) (consG (nameG 9) (consG (nameG 10) (consG (nameG 11) (consG (nameG 12) nilG))))))
  (dputS (callE max2D (consA (dgetE (vE 7) (vE 8) (cE (.int 0))) (consA (vE 12) nilA))) (vE 7) (vE 8)))
  (forS (rng2I (consA (op2 (addD false) (vE 6) (cE (.int 1))) (consA (callE lenD (consA (vE 2) nilA)) nilA))) (nameG 8)
  (seqS (asgS (cllE Fn.g_bound 3 (consA (op2 ixD (vE 2) (vE 6)) (consA (op2 ixD (vE 2) (vE 8)) (consA (op1 (fldD c.Shelf "scale") (vE 0)) nilA)))) (nameG 13))
  (ifS (toB (op2 ltD (vE 13) (vE 1)))
  (dropS (mthL appendD (vE 4) (consA (tupE (consA (vE 6) (consA (vE 8) (consA (vE 13) nilA)))) nilA)))
  (ifS (toB (op2 (dinD false) (vE 8) (vE 7)))
  (dropS (mthL appendD (vE 3) (consA (tupE (consA (vE 6) (consA (vE 8) (consA (op2 dixD (vE 7) (vE 8)) nilA)))) nilA)))
  (dropS (mthL appendD (vE 5) (consA (tupE (consA (vE 6) (consA (vE 8) nilA))) nilA))))))))))
  (retS (tupE (consA (vE 3) (consA (vE 4) (consA (vE 5) nilA)))))))))))
noncomputable def g_pairs (c : CC) : FF := sealed (fnF 14 false (b_pairs c))
theorem e_pairs (c : CC) : g_pairs c = fnF 14 false (b_pairs c) := sealed_eq _
/-! law_bound: 0 _law_one, 1 _law_other, 2 _law_scale_here, 3 _law_letters_here, 4 _law_found, 5 _law_sign, 6 _law_few, 7 _law_row_here, 8 _law_own -/
noncomputable def b_law_bound : FS :=
  (seqS (asgS (cE (.int 0)) (nameG 4))
  (seqS (forS (listI (vE 3)) (nameG 5)
  (seqS (asgS (callE minLD (consA (lcE false (listI (lstE false (consA (vE 0) (consA (vE 1) nilA)))) (nameG 7) yesT (callE lenD (consA (lcE false (strI (vE 7)) (nameG 8) (toB (op2 eqD (vE 8) (vE 5))) (cE (.int 1)) [8]) nilA)) [7]) nilA)) (nameG 6))
  (asgS (op2 (addD false) (vE 4) (op2 mulD (op2 ixD (vE 2) (cE (.int 0))) (vE 6))) (nameG 4))))
  (retS (vE 4))))
noncomputable def g_law_bound : FF := sealed (fnF 9 true (b_law_bound))
theorem e_law_bound : g_law_bound = fnF 9 true (b_law_bound) := sealed_eq _
/-! law_best: 0 _law_one, 1 _law_other, 2 _law_scale_here, 3 _law_best_here, 4 _law_shift, 5 _law_begin, 6 _law_end, 7 _law_likes, 8 _law_p -/
noncomputable def b_law_best : FS :=
  (seqS (asgS (cE (.int 0)) (nameG 3))
  (seqS (forS (listI (cllE Fn.g_law_reaches 4 (consA (vE 0) (consA (vE 1) (consA (vE 2) (consA (cE (.int 1)) nilA)))))) (tupG 3 (consG (nameG 4) (consG (nameG 5) (consG (nameG 6) nilG))))
  (seqS (asgS (mth1 joinD (cE (.str [])) (lcE false (rng2I (consA (vE 5) (consA (vE 6) nilA))) (nameG 8) yesT (op2 ixD (cE (.str [47, 61])) (callE intD (consA (op2 eqD (op2 ixD (vE 0) (vE 8)) (op2 ixD (vE 1) (op2 (addD false) (vE 8) (vE 4)))) nilA))) [8])) (nameG 7))
  (asgS (callE max2D (consA (vE 3) (consA (cllE Fn.g_law_worth 2 (consA (vE 7) (consA (vE 2) nilA))) nilA))) (nameG 3))))
  (retS (vE 3))))
noncomputable def g_law_best : FF := sealed (fnF 9 true (b_law_best))
theorem e_law_best : g_law_best = fnF 9 true (b_law_best) := sealed_eq _
/-! k17_law: 0 _law_script, 1 _law_h, 2 _law_letters_here, 3 _law_rows_here, 4 _law_told, 5 _law_due, 6 _law_i, 7 _law_shelf_here, 8 _law_found, 9 _law_one, 10 _law_seeds_here, 11 _law_scale_here, 12 _law_most, 13 _law_j, 14 _law_row_here, 15 _law_best_here -/
noncomputable def b_k17_law (c : CC) : FS :=
  (seqS (asgS (lstE true (consA (cE (.int 73)) (consA (callE (listD true) (consA (vE 0) nilA)) (consA (cE (.int 0)) nilA)))) (nameG 1))
  (seqS (asgS (cllE Fn.g_law_letters 1 (consA (vE 1) nilA)) (nameG 2))
  (seqS (asgS (cllE (Fn.g_law_case c) 2 (consA (vE 1) (consA (vE 2) nilA))) (tupG 3 (consG (nameG 10) (consG (nameG 11) (consG (nameG 12) nilG)))))
  (seqS (asgS (lcE false (listI (cllE Fn.g_law_rows 3 (consA (vE 1) (consA (vE 2) (consA (op2 ixD (lstE false (consA (cE (.int 4)) (consA (cE (.int 4)) (consA (cE (.int 7)) nilA)))) (cllE Fn.g_law_next 2 (consA (vE 1) (consA (cE (.int 3)) nilA)))) nilA))))) (nameG 14) yesT (slE false (vE 14) noO (someO (cE (.int 40)))) [14]) (nameG 3))
  (seqS (asgS (op2 (addD false) (op2 (addD false) (vE 12) (cE (.int 1))) (cllE Fn.g_law_next 2 (consA (vE 1) (consA (op2 ixD (lstE false (consA (cE (.int 3)) (consA (cE (.int 40)) (consA (cE (.int 200)) nilA)))) (cllE Fn.g_law_next 2 (consA (vE 1) (consA (cE (.int 3)) nilA)))) nilA)))) (nameG 4))
  (seqS (asgS (tupE (consA (lstE false nilA) (consA (lstE false nilA) (consA (lstE false nilA) nilA)))) (nameG 5))
  (seqS (forS (rng1I (consA (callE lenD (consA (vE 3) nilA)) nilA)) (nameG 6)
  (forS (rng2I (consA (op2 (addD false) (vE 6) (cE (.int 1))) (consA (callE lenD (consA (vE 3) nilA)) nilA))) (nameG 13)
  (seqS (asgS (cllE Fn.g_law_bound 4 (consA (op2 ixD (vE 3) (vE 6)) (consA (op2 ixD (vE 3) (vE 13)) (consA (vE 11) (consA (vE 2) nilA))))) (nameG 12))
  (seqS (asgS (cllE Fn.g_law_best 3 (consA (op2 ixD (vE 3) (vE 6)) (consA (op2 ixD (vE 3) (vE 13)) (consA (vE 11) nilA)))) (nameG 15))
  (seqS (ifS (orT (notT (toB (cllE (Fn.g_law_same 8) 2 (consA (cllE Fn.g_bound 3 (consA (op2 ixD (vE 3) (vE 6)) (consA (op2 ixD (vE 3) (vE 13)) (consA (vE 11) nilA)))) (consA (vE 12) nilA))))) (toB (op2 gtD (vE 15) (vE 12))))
  (retS (cE (.bl false)))
  nilS)
  (ifS (toB (op2 ltD (vE 12) (vE 4)))
  (dropS (mthL appendD (op2 ixD (vE 5) (cE (.int 1))) (consA (tupE (consA (vE 6) (consA (vE 13) (consA (vE 12) nilA)))) nilA)))
  (ifS (toB (op2 geD (vE 15) (vE 4)))
  (dropS (mthL appendD (op2 ixD (vE 5) (cE (.int 0))) (consA (tupE (consA (vE 6) (consA (vE 13) (consA (vE 15) nilA)))) nilA)))
  (dropS (mthL appendD (op2 ixD (vE 5) (cE (.int 2))) (consA (tupE (consA (vE 6) (consA (vE 13) nilA))) nilA))))))))))
  (seqS (asgS (cllE (Fn.g_law_shelf c) 4 (consA (vE 2) (consA (vE 11) (consA (vE 10) (consA (vE 3) nilA))))) (nameG 7))
  (seqS (asgS (cllE (Fn.g_pairs c) 2 (consA (vE 7) (consA (vE 4) nilA))) (nameG 8))
  (seqS (ifS (notT (toB (cllE (Fn.g_law_same 8) 2 (consA (vE 8) (consA (vE 5) nilA)))))
  (retS (cE (.bl false)))
  nilS)
  (seqS (forS (listI (vE 8)) (nameG 9)
  (dropS (mthL appendD (vE 9) (consA (tupE nilA) nilA))))
  (retS (op2 eqD (cllE (Fn.g_pairs c) 2 (consA (vE 7) (consA (vE 4) nilA))) (vE 5))))))))))))))
noncomputable def g_k17_law (c : CC) : FF := sealed (fnF 16 false (b_k17_law c))
theorem e_k17_law (c : CC) : g_k17_law c = fnF 16 false (b_k17_law c) := sealed_eq _
end Fn

/-! Dm1: how functions on data are reckoned; the law's numbers. -/
namespace Dm
open Dt Fn
open L2 (atI ixN CMul CDiv CPow)
open PySem (sizeLine)
/-- it ends well, with so much known -/
def Does {β : Type} (o : Out β) (P : β → Mu → Prop) : Prop := ∃ b μ, o = .ok b μ ∧ P b μ
section
variable {β γ : Type} {o : Out β} {P P' : β → Mu → Prop} {Q : γ → Mu → Prop} {b : β} {μ μ' : Mu} {ρ ρ' : Env} {f g : FS} {fl : Fl} {d : D} {R : Fl → Mu → Prop}
theorem Does.ok (h : P b μ) : Does (.ok b μ) P := ⟨b, μ, rfl, h⟩
theorem Does.of (e : o = .ok b μ) (h : P b μ) : Does o P := ⟨b, μ, e, h⟩
theorem Does.bind {k : β → Mu → Out γ} (h : Does o P) (hk : ∀ b μ, P b μ → Does (k b μ) Q) : Does (o.bind k) Q := by
  obtain ⟨b, μ, rfl, h⟩ := h
  exact hk b μ h
theorem Does.mono (h : Does o P) (hk : ∀ b μ, P b μ → P' b μ) : Does o P' := by
  obtain ⟨b, μ, e, h⟩ := h
  exact ⟨b, μ, e, hk b μ h⟩
theorem seq_nx (h : f ρ μ = .ok (.nx ρ') μ') (k : Does (g ρ' μ') R) : Does (seqS f g ρ μ) R := by
  unfold seqS
  rw [h]
  exact k
theorem seq_rt (h : f ρ μ = .ok (.rt d) μ') (k : R (.rt d) μ') : Does (seqS f g ρ μ) R := by
  unfold seqS
  rw [h]
  exact ⟨_, _, rfl, k⟩
theorem does_seq (h : Does (f ρ μ) fun fl μ1 => Does (thenF fl μ1 g) R) : Does (seqS f g ρ μ) R := by
  obtain ⟨b, μ1, e, h⟩ := h
  unfold seqS
  rw [e]
  exact h
theorem if_does {fc : FT} {b : Bool} (h : fc ρ μ = .ok b μ') (k : b = true → Does (f ρ μ') R) (k' : b = false → Does (g ρ μ') R) : Does (ifS fc f g ρ μ) R := by
  unfold ifS
  rw [h]
  show Does (if b = true then f ρ μ' else g ρ μ') R
  cases b with
  | true => exact k rfl
  | false => exact k' rfl
/-- as equations -/
theorem seq_eq {o : Out Fl} (h : f ρ μ = .ok (.nx ρ') μ') (k : g ρ' μ' = o) : seqS f g ρ μ = o := by
  unfold seqS
  rw [h]
  exact k
theorem seq_eq_rt (h : f ρ μ = .ok (.rt d) μ') : seqS f g ρ μ = .ok (.rt d) μ' := by
  unfold seqS
  rw [h]
  rfl
end
/-! ### one step each -/
section
variable {μ : Mu} {i j : Int} {s t : List Nat} {ds : List D} {k : Nat} {b : Bool}
theorem addD_ii : addD b (.int i) (.int j) μ = .ok (.int (i + j)) μ := rfl
theorem addD_ss : addD b (.str s) (.str t) μ = if s.length + t.length ≤ sizeLine then .ok (.str (s ++ t)) μ else .bad := rfl
theorem subD_ii : subD (.int i) (.int j) μ = .ok (.int (i - j)) μ := rfl
theorem mulD_ii : mulD (.int i) (.int j) μ = if CMul i j then .ok (.int (i * j)) μ else .bad := rfl
theorem fdivD_ii : fdivD (.int i) (.int j) μ = if CDiv i j then .ok (.int (i / j)) μ else .bad := rfl
theorem modD_ii : modD (.int i) (.int j) μ = if 0 < j then .ok (.int (i % j)) μ else .bad := rfl
theorem ltD_ii : ltD (.int i) (.int j) μ = .ok (.bl (decide (i < j))) μ := rfl
theorem leD_ii : leD (.int i) (.int j) μ = .ok (.bl (decide (i ≤ j))) μ := rfl
theorem gtD_ii : gtD (.int i) (.int j) μ = .ok (.bl (decide (j < i))) μ := rfl
theorem geD_ii : geD (.int i) (.int j) μ = .ok (.bl (decide (j ≤ i))) μ := rfl
theorem eqD_ii : eqD (.int i) (.int j) μ = .ok (.bl (decide (i = j))) μ := by simp [eqD, deref, plain, eqvD, Bool.beq_eq_decide_eq]
theorem neD_ii : neD (.int i) (.int j) μ = .ok (.bl (!decide (i = j))) μ := by simp [neD, deref, plain, eqvD, Bool.beq_eq_decide_eq]
theorem eqD_ss : eqD (.str s) (.str t) μ = .ok (.bl (decide (s = t))) μ := by simp [eqD, deref, plain, eqvD, Bool.beq_eq_decide_eq]
theorem neD_ss : neD (.str s) (.str t) μ = .ok (.bl (!decide (s = t))) μ := by simp [neD, deref, plain, eqvD, Bool.beq_eq_decide_eq]
theorem max2D_ii : max2D [.int i, .int j] μ = .ok (.int (max i j)) μ := rfl
theorem min2D_ii : min2D [.int i, .int j] μ = .ok (.int (min i j)) μ := rfl
theorem lenD_s : lenD [.str s] μ = .ok (.int s.length) μ := rfl
theorem lenD_l : lenD [.lst ds] μ = .ok (.int ds.length) μ := rfl
theorem lenD_t : lenD [.tup ds] μ = .ok (.int ds.length) μ := rfl
theorem lenD_o (h : μ[k]? = some (.lst ds)) : lenD [.own k] μ = .ok (.int ds.length) μ := by simp only [lenD, h]
def optD (o : Option D) (μ : Mu) : Out D := match o with
  | some d => .ok d μ
  | none => .bad
theorem optD_some {d : D} : optD (some d) μ = .ok d μ := rfl
theorem ixD_s : ixD (.str s) (.int i) μ = optD ((atI s i).map fun c => D.str [c]) μ := by
  show (match atI s i with | some c => Out.ok (D.str [c]) μ | none => .bad) = _
  cases atI s i <;> rfl
theorem ixD_l : ixD (.lst ds) (.int i) μ = optD (atI ds i) μ := by
  show (match atI ds i with | some c => Out.ok c μ | none => .bad) = _
  cases atI ds i <;> rfl
theorem ixD_t : ixD (.tup ds) (.int i) μ = optD (atI ds i) μ := by
  show (match atI ds i with | some c => Out.ok c μ | none => .bad) = _
  cases atI ds i <;> rfl
theorem ixD_o (h : μ[k]? = some (.lst ds)) : ixD (.own k) (.int i) μ = optD (atI ds i) μ := by
  simp only [ixD, getL, h, moL]
  cases atI ds i <;> rfl
theorem mkL_f : mkL false ds μ = .ok (.lst ds) μ := rfl
theorem mkL_t : mkL true ds μ = .ok (.own μ.length) (μ ++ [.lst ds]) := rfl
end
theorem atI_nat {β : Type} {xs : List β} {i : Int} {x : β} (h0 : 0 ≤ i) (h : xs[i.toNat]? = some x) : atI xs i = some x := by
  have hl := (List.getElem?_eq_some_iff.mp h).1
  unfold atI ixN
  rw [if_pos h0, if_pos (by omega)]
  exact h
theorem get_ex {β : Type} {xs : List β} {n : Nat} (h : n < xs.length) : ∃ x, xs[n]? = some x := ⟨_, List.getElem?_eq_getElem h⟩
theorem ixN_nat {n : Nat} {i : Int} (h0 : 0 ≤ i) (h : i < n) : ixN n i = some i.toNat := by
  unfold ixN
  rw [if_pos h0, if_pos h]
/-! ### the law's numbers -/
structure St where
  seed : Int
  cells : List Int
  at_ : Int
def R0 (st : St) (rest : Mu) : Mu := .lst (st.cells.map D.int) :: .lst [.int st.seed, .own 0, .int st.at_] :: rest
theorem eqvDs_nil (ds : List D) : eqvDs ds [] = ds.isEmpty := by cases ds <;> simp [eqvDs]
theorem plains_int (n : Nat) (xs : List Int) : plains n (xs.map D.int) = true := by
  induction xs with
  | nil => simp [plains]
  | cons x xs ih => simp [plains, plain, ih]
theorem next_ok (st : St) (rest : Mu) {m : Int} (h0 : 0 < m) (h1 : m < 1073741824) : ∃ (v : Int) (st' : St), g_law_next [.own 1, .int m] (R0 st rest) = .ok (.int v) (R0 st' rest) ∧ 0 ≤ v ∧ v < m := by
  have key : Does (b_law_next [some (.own 1), some (.int m), none, none] (R0 st rest)) fun fl μ => ∃ (v : Int) (st' : St), fl = .rt (.int v) ∧ μ = R0 st' rest ∧ 0 ≤ v ∧ v < m := by
    unfold b_law_next
    have H1 : (R0 st rest)[1]? = some (.lst [.int st.seed, .own 0, .int st.at_]) := rfl
    have H0 : (R0 st rest)[0]? = some (.lst (st.cells.map D.int)) := rfl
    have A0 : atI [D.int st.seed, D.own 0, D.int st.at_] 0 = some (.int st.seed) := rfl
    have A1 : atI [D.int st.seed, D.own 0, D.int st.at_] 1 = some (.own 0) := rfl
    have A2 : atI [D.int st.seed, D.own 0, D.int st.at_] 2 = some (.int st.at_) := rfl
    have p1 : (0 : Int) < max 1 (((st.cells.map D.int).length : Nat) : Int) := by omega
    have hP : (10 : Int) ^ (18 : Int).toNat = 1000000000000000000 := by decide
    have hPw : powD (.int 10) (.int 18) (R0 st rest) = .ok (.int 1000000000000000000) (R0 st rest) := by
      show (if CPow 10 18 then Out.ok (D.int ((10 : Int) ^ (18 : Int).toNat)) _ else .bad) = _
      rw [if_pos (by decide), hP]
    generalize hat : st.at_ % max 1 (((st.cells.map D.int).length : Nat) : Int) = at'
    refine seq_nx (ρ' := [some (.own 1), some (.int m), some (.int at'), none]) (μ' := R0 st rest) (by simp only [asgS, retS, retNS, dropS, ifS, setS, nilS, op2, op1, toB, ifE, andE, orE, notE, andT, orT, notT, consA, nilA, tupE, lstE, callE, cllE, mth1, mthL, vE, cE, nameG, tupG, consG, nilG, slE, noO, someO, thenF, Out.bind_ok, List.getElem?_cons_succ, List.getElem?_cons_zero, List.set_cons_zero, List.set_cons_succ, List.length_cons, List.length_nil, Option.bind_some, Nat.zero_add, Nat.reduceAdd, Nat.reduceLeDiff, ↓reduceIte, addD_ii, addD_ss, subD_ii, mulD_ii, fdivD_ii, modD_ii, ltD_ii, leD_ii, gtD_ii, geD_ii, eqD_ii, neD_ii, eqD_ss, neD_ss, max2D_ii, min2D_ii, lenD_s, lenD_l, lenD_t, ixD_l, ixD_t, ixD_o, ixD_s, mkL_f, mkL_t, optD_some, Option.map_some, ixD_o H1, A0, A1, A2, lenD_o H0, ite_true, if_pos p1, hat]) ?_
    have b0 : 0 ≤ at' := by rw [← hat]; exact Int.emod_nonneg _ (by omega)
    have b1 : at' < max 1 (((st.cells.map D.int).length : Nat) : Int) := by rw [← hat]; exact Int.emod_lt_of_pos _ p1
    have hne : neD (.own 0) (.lst []) (R0 st rest) = .ok (.bl (!(st.cells.map D.int).isEmpty)) (R0 st rest) := by
      unfold neD
      rw [show deref (.own 0) (R0 st rest) = .lst (st.cells.map D.int) from rfl, show deref (.lst []) (R0 st rest) = .lst [] from rfl]
      simp [plain, plains, plains_int, eqvD, eqvDs_nil]
    obtain ⟨cell, hcell, hin⟩ : ∃ cell : Int, (if (!(st.cells.map D.int).isEmpty) = true then optD (atI (st.cells.map D.int) at') (R0 st rest) else .ok (.int 0) (R0 st rest)) = .ok (.int cell) (R0 st rest) ∧ (0 < cell → at'.toNat < st.cells.length) := by
      cases hc : st.cells with
      | nil => exact ⟨0, rfl, fun z => absurd z (by decide)⟩
      | cons x xs =>
        rw [hc] at b1
        have hl : at'.toNat < (x :: xs).length := by
          rw [List.length_map, List.length_cons] at b1
          rw [List.length_cons]
          omega
        obtain ⟨y, hy⟩ := get_ex hl
        refine ⟨y, ?_, fun _ => hl⟩
        rw [if_pos (by rfl), atI_nat (x := .int y) b0 (by rw [List.getElem?_map, hy]; rfl)]
        rfl
    refine seq_nx (ρ' := [some (.own 1), some (.int m), some (.int at'), some (.int cell)]) (μ' := R0 st rest) (by simp only [asgS, retS, retNS, dropS, ifS, setS, nilS, op2, op1, toB, ifE, andE, orE, notE, andT, orT, notT, consA, nilA, tupE, lstE, callE, cllE, mth1, mthL, vE, cE, nameG, tupG, consG, nilG, slE, noO, someO, thenF, Out.bind_ok, List.getElem?_cons_succ, List.getElem?_cons_zero, List.set_cons_zero, List.set_cons_succ, List.length_cons, List.length_nil, Option.bind_some, Nat.zero_add, Nat.reduceAdd, Nat.reduceLeDiff, ↓reduceIte, addD_ii, addD_ss, subD_ii, mulD_ii, fdivD_ii, modD_ii, ltD_ii, leD_ii, gtD_ii, geD_ii, eqD_ii, neD_ii, eqD_ss, neD_ss, max2D_ii, min2D_ii, lenD_s, lenD_l, lenD_t, ixD_l, ixD_t, ixD_o, ixD_s, mkL_f, mkL_t, optD_some, Option.map_some, ixD_o H1, ixD_o H0, A0, A1, A2, hne, Nat.zero_le, ite_true, hcell]) ?_
    by_cases hbig : (1000000000000000000 : Int) ≤ cell
    · have hl := hin (by omega)
      have hset : (R0 st rest).set 0 (.lst ((st.cells.map D.int).set at'.toNat (.int (cell / m)))) = R0 ⟨st.seed, st.cells.set at'.toNat (cell / m), st.at_⟩ rest := by
        show MO.lst _ :: _ = MO.lst _ :: _
        rw [List.map_set]
      have hcd : CDiv cell m := ⟨h0, h1⟩
      have hix : ixN (st.cells.map D.int).length at' = some at'.toNat := ixN_nat b0 (by rw [List.length_map]; omega)
      have hsetS : setS (op2 fdivD (vE 3) (vE 1)) (op2 ixD (vE 0) (cE (.int 1))) (vE 2) [some (.own 1), some (.int m), some (.int at'), some (.int cell)] (R0 st rest) = .ok (.nx [some (.own 1), some (.int m), some (.int at'), some (.int cell)]) (R0 ⟨st.seed, st.cells.set at'.toNat (cell / m), st.at_⟩ rest) := by
        simp only [asgS, retS, retNS, dropS, ifS, setS, nilS, op2, op1, toB, ifE, andE, orE, notE, andT, orT, notT, consA, nilA, tupE, lstE, callE, cllE, mth1, mthL, vE, cE, nameG, tupG, consG, nilG, slE, noO, someO, thenF, Out.bind_ok, List.getElem?_cons_succ, List.getElem?_cons_zero, List.set_cons_zero, List.set_cons_succ, List.length_cons, List.length_nil, Option.bind_some, Nat.zero_add, Nat.reduceAdd, Nat.reduceLeDiff, ↓reduceIte, addD_ii, addD_ss, subD_ii, mulD_ii, fdivD_ii, modD_ii, ltD_ii, leD_ii, gtD_ii, geD_ii, eqD_ii, neD_ii, eqD_ss, neD_ss, max2D_ii, min2D_ii, lenD_s, lenD_l, lenD_t, ixD_l, ixD_t, ixD_o, ixD_s, mkL_f, mkL_t, optD_some, Option.map_some, ixD_o H1, A1, if_pos hcd, H0, hix, hset]
      have hr := seq_eq_rt (g := (seqS (setS (op2 modD (op2 (addD false) (op2 (addD false) (op2 mulD (op2 ixD (vE 0) (cE (.int 0))) (cE (.int 48271))) (op2 mulD (vE 3) (cE (.int 69621)))) (cE (.int 11))) (cE (.int 2147483647))) (vE 0) (cE (.int 0)))
  (seqS (setS (op2 (addD false) (op2 ixD (vE 0) (cE (.int 2))) (cE (.int 1))) (vE 0) (cE (.int 2)))
  (retS (op2 modD (op2 fdivD (op2 ixD (vE 0) (cE (.int 0))) (cE (.int 7))) (vE 1)))))) (d := .int (cell % m)) (μ' := R0 ⟨st.seed, st.cells.set at'.toNat (cell / m), st.at_⟩ rest) (f := ifS (toB (op2 geD (vE 3) (op2 powD (cE (.int 10)) (cE (.int 18)))))
  (seqS (setS (op2 fdivD (vE 3) (vE 1)) (op2 ixD (vE 0) (cE (.int 1))) (vE 2))
  (retS (op2 modD (vE 3) (vE 1))))
  nilS) (ρ := [some (.own 1), some (.int m), some (.int at'), some (.int cell)]) (μ := R0 st rest) (by
        unfold ifS
        simp only [toB, op2, vE, cE, Out.bind_ok, List.getElem?_cons_succ, List.getElem?_cons_zero, hPw, geD_ii, decide_eq_true hbig, if_true]
        rw [seq_eq hsetS rfl]
        simp only [asgS, retS, retNS, dropS, ifS, setS, nilS, op2, op1, toB, ifE, andE, orE, notE, andT, orT, notT, consA, nilA, tupE, lstE, callE, cllE, mth1, mthL, vE, cE, nameG, tupG, consG, nilG, slE, noO, someO, thenF, Out.bind_ok, List.getElem?_cons_succ, List.getElem?_cons_zero, List.set_cons_zero, List.set_cons_succ, List.length_cons, List.length_nil, Option.bind_some, Nat.zero_add, Nat.reduceAdd, Nat.reduceLeDiff, ↓reduceIte, addD_ii, addD_ss, subD_ii, mulD_ii, fdivD_ii, modD_ii, ltD_ii, leD_ii, gtD_ii, geD_ii, eqD_ii, neD_ii, eqD_ss, neD_ss, max2D_ii, min2D_ii, lenD_s, lenD_l, lenD_t, ixD_l, ixD_t, ixD_o, ixD_s, mkL_f, mkL_t, optD_some, Option.map_some, if_pos h0])
      exact ⟨_, _, hr, cell % m, _, rfl, rfl, Int.emod_nonneg _ (by omega), Int.emod_lt_of_pos _ h0⟩
    · refine seq_nx (ρ' := [some (.own 1), some (.int m), some (.int at'), some (.int cell)]) (μ' := R0 st rest) (by
        unfold ifS
        simp only [toB, op2, vE, cE, Out.bind_ok, List.getElem?_cons_succ, List.getElem?_cons_zero, hPw, geD_ii, decide_eq_false hbig, if_false, nilS, Bool.false_eq_true]) ?_
      have m1 : CMul st.seed 48271 := .inr ⟨by decide, by decide⟩
      have m2 : CMul cell 69621 := .inr ⟨by decide, by decide⟩
      have q1 : (0 : Int) < 2147483647 := by decide
      have hix0 : ixN 3 0 = some 0 := rfl
      have hix2 : ixN 3 2 = some 2 := rfl
      have hs1 : ∀ (x : Int), (R0 st rest).set 1 (.lst ([.int st.seed, .own 0, .int st.at_].set 0 (.int x))) = R0 ⟨x, st.cells, st.at_⟩ rest := fun x => rfl
      refine seq_nx (μ' := R0 ⟨(st.seed * 48271 + cell * 69621 + 11) % 2147483647, st.cells, st.at_⟩ rest) (by simp only [asgS, retS, retNS, dropS, ifS, setS, nilS, op2, op1, toB, ifE, andE, orE, notE, andT, orT, notT, consA, nilA, tupE, lstE, callE, cllE, mth1, mthL, vE, cE, nameG, tupG, consG, nilG, slE, noO, someO, thenF, Out.bind_ok, List.getElem?_cons_succ, List.getElem?_cons_zero, List.set_cons_zero, List.set_cons_succ, List.length_cons, List.length_nil, Option.bind_some, Nat.zero_add, Nat.reduceAdd, Nat.reduceLeDiff, ↓reduceIte, addD_ii, addD_ss, subD_ii, mulD_ii, fdivD_ii, modD_ii, ltD_ii, leD_ii, gtD_ii, geD_ii, eqD_ii, neD_ii, eqD_ss, neD_ss, max2D_ii, min2D_ii, lenD_s, lenD_l, lenD_t, ixD_l, ixD_t, ixD_o, ixD_s, mkL_f, mkL_t, optD_some, Option.map_some, ixD_o H1, A0, if_pos m1, if_pos m2, if_pos q1, H1, hix0, hs1]; rfl) ?_
      generalize (st.seed * 48271 + cell * 69621 + 11) % 2147483647 = sd
      have G1 : (R0 ⟨sd, st.cells, st.at_⟩ rest)[1]? = some (.lst [.int sd, .own 0, .int st.at_]) := rfl
      have B0 : ∀ x : Int, atI [D.int sd, D.own 0, D.int x] 0 = some (.int sd) := fun x => rfl
      have B2 : atI [D.int sd, D.own 0, D.int st.at_] 2 = some (.int st.at_) := rfl
      refine seq_nx (μ' := R0 ⟨sd, st.cells, st.at_ + 1⟩ rest) (by simp only [asgS, retS, retNS, dropS, ifS, setS, nilS, op2, op1, toB, ifE, andE, orE, notE, andT, orT, notT, consA, nilA, tupE, lstE, callE, cllE, mth1, mthL, vE, cE, nameG, tupG, consG, nilG, slE, noO, someO, thenF, Out.bind_ok, List.getElem?_cons_succ, List.getElem?_cons_zero, List.set_cons_zero, List.set_cons_succ, List.length_cons, List.length_nil, Option.bind_some, Nat.zero_add, Nat.reduceAdd, Nat.reduceLeDiff, ↓reduceIte, addD_ii, addD_ss, subD_ii, mulD_ii, fdivD_ii, modD_ii, ltD_ii, leD_ii, gtD_ii, geD_ii, eqD_ii, neD_ii, eqD_ss, neD_ss, max2D_ii, min2D_ii, lenD_s, lenD_l, lenD_t, ixD_l, ixD_t, ixD_o, ixD_s, mkL_f, mkL_t, optD_some, Option.map_some, ixD_o G1, B2, G1, hix2]; rfl) ?_
      have G2 : (R0 ⟨sd, st.cells, st.at_ + 1⟩ rest)[1]? = some (.lst [.int sd, .own 0, .int (st.at_ + 1)]) := rfl
      have hcd : CDiv sd 7 := ⟨by decide, by decide⟩
      exact ⟨_, _, by simp only [asgS, retS, retNS, dropS, ifS, setS, nilS, op2, op1, toB, ifE, andE, orE, notE, andT, orT, notT, consA, nilA, tupE, lstE, callE, cllE, mth1, mthL, vE, cE, nameG, tupG, consG, nilG, slE, noO, someO, thenF, Out.bind_ok, List.getElem?_cons_succ, List.getElem?_cons_zero, List.set_cons_zero, List.set_cons_succ, List.length_cons, List.length_nil, Option.bind_some, Nat.zero_add, Nat.reduceAdd, Nat.reduceLeDiff, ↓reduceIte, addD_ii, addD_ss, subD_ii, mulD_ii, fdivD_ii, modD_ii, ltD_ii, leD_ii, gtD_ii, geD_ii, eqD_ii, neD_ii, eqD_ss, neD_ss, max2D_ii, min2D_ii, lenD_s, lenD_l, lenD_t, ixD_l, ixD_t, ixD_o, ixD_s, mkL_f, mkL_t, optD_some, Option.map_some, ixD_o G2, B0, if_pos hcd, if_pos h0], (sd / 7) % m, ⟨sd, st.cells, st.at_ + 1⟩, rfl, rfl, Int.emod_nonneg _ (by omega), Int.emod_lt_of_pos _ h0⟩
  obtain ⟨fl, μ, e, v, st', rfl, rfl, h2, h3⟩ := key
  refine ⟨v, st', ?_, h2, h3⟩
  rw [e_law_next]
  unfold fnF
  rw [show startE 4 [D.own 1, D.int m] = [some (.own 1), some (.int m), none, none] from rfl, e]
  rfl
end Dm

/-! Dm2: loops, comprehensions, defs. -/
namespace Dm
open Dt Fn
open L2 (atI ixN CMul CDiv CPow)
open PySem (sizeLine)
section
variable {A : Type} {enc : A → D} {fi : FI} {gt : FG} {fb : FS} {ft : FT} {fe : FE} {vs : List Nat} {ρ : Dt.Env} {μ μ0 : Mu} {R : Fl → Mu → Prop} {xs : List A} {gd : Guard}
theorem loop_does (I : List A → Dt.Env → Mu → Prop) (hg : ∀ done ρ μ, I done ρ μ → Gd gd μ)
    (step : ∀ done x rest, xs = done ++ x :: rest → ∀ ρ μ, I done ρ μ → ∃ ρ1, gt (enc x) ρ = some ρ1 ∧ Does (fb ρ1 μ) fun fl μ' => match fl with
      | .nx ρ' => I (done ++ [x]) ρ' μ'
      | .ct ρ' => I (done ++ [x]) ρ' μ'
      | .bk ρ' => R (.nx ρ') μ'
      | .rt d => R (.rt d) μ') (fin : ∀ ρ μ, I xs ρ μ → R (.nx ρ) μ) : ∀ (rest done : List A), xs = done ++ rest → ∀ ρ μ, I done ρ μ → Does (loopS gd gt fb (rest.map enc) ρ μ) R
  | [], done, e, ρ, μ, h => by
    rw [List.append_nil] at e
    subst e
    unfold List.map loopS
    rw [if_pos (hg _ _ _ h)]
    exact .ok (fin _ _ h)
  | x :: rest, done, e, ρ, μ, h => by
    obtain ⟨ρ1, e1, fl, μ1, e2, h2⟩ := step done x rest e ρ μ h
    rw [List.map_cons]
    unfold loopS
    rw [if_pos (hg _ _ _ h), e1]
    simp only [e2, Out.bind_ok]
    have e' : xs = (done ++ [x]) ++ rest := by rw [e, List.append_assoc]; rfl
    cases fl with
    | nx ρ' => exact loop_does I hg step fin rest (done ++ [x]) e' ρ' μ1 h2
    | ct ρ' => exact loop_does I hg step fin rest (done ++ [x]) e' ρ' μ1 h2
    | bk ρ' => exact .ok h2
    | rt d => exact .ok h2
theorem forG_does (hi : fi ρ μ = .ok (xs.map enc, gd) μ0) (I : List A → Dt.Env → Mu → Prop) (hg : ∀ done ρ μ, I done ρ μ → Gd gd μ) (h0 : I [] ρ μ0)
    (step : ∀ done x rest, xs = done ++ x :: rest → ∀ ρ μ, I done ρ μ → ∃ ρ1, gt (enc x) ρ = some ρ1 ∧ Does (fb ρ1 μ) fun fl μ' => match fl with
      | .nx ρ' => I (done ++ [x]) ρ' μ'
      | .ct ρ' => I (done ++ [x]) ρ' μ'
      | .bk ρ' => R (.nx ρ') μ'
      | .rt d => R (.rt d) μ') (fin : ∀ ρ μ, I xs ρ μ → R (.nx ρ) μ) : Does (forS fi gt fb ρ μ) R := by
  unfold forS
  rw [hi]
  exact loop_does I hg step fin xs [] rfl ρ μ0 h0
theorem for_does (hi : fi ρ μ = .ok (xs.map enc, none) μ0) (I : List A → Dt.Env → Mu → Prop) (h0 : I [] ρ μ0)
    (step : ∀ done x rest, xs = done ++ x :: rest → ∀ ρ μ, I done ρ μ → ∃ ρ1, gt (enc x) ρ = some ρ1 ∧ Does (fb ρ1 μ) fun fl μ' => match fl with
      | .nx ρ' => I (done ++ [x]) ρ' μ'
      | .ct ρ' => I (done ++ [x]) ρ' μ'
      | .bk ρ' => R (.nx ρ') μ'
      | .rt d => R (.rt d) μ') (fin : ∀ ρ μ, I xs ρ μ → R (.nx ρ) μ) : Does (forS fi gt fb ρ μ) R :=
  forG_does hi I (fun _ _ _ _ => True.intro) h0 step fin
/-- a comprehension that changes what is kept -/
theorem comp_does (I : List A → List D → Mu → Prop) (step : ∀ done x rest, xs = done ++ x :: rest → ∀ acc μ, I done acc μ → ∃ ρ1, gt (enc x) ρ = some ρ1 ∧ ∃ t μ1, ft ρ1 μ = .ok t μ1 ∧ (t = false → I (done ++ [x]) acc μ1) ∧ (t = true → Does (fe ρ1 μ1) fun d μ2 => I (done ++ [x]) (acc ++ [d]) μ2)) :
    ∀ (rest done : List A) (acc : List D) (μ : Mu), xs = done ++ rest → I done acc μ → Does (compM none gt ft fe (rest.map enc) ρ μ) fun ds μ' => I xs (acc ++ ds) μ'
  | [], done, acc, μ, e, h => by
    rw [List.append_nil] at e
    subst e
    unfold List.map compM
    rw [if_pos (show Gd none μ from True.intro)]
    refine .ok ?_
    rw [List.append_nil]
    exact h
  | x :: rest, done, acc, μ, e, h => by
    obtain ⟨ρ1, e1, t, μ1, e2, hf, ht⟩ := step done x rest e acc μ h
    have e' : xs = (done ++ [x]) ++ rest := by rw [e, List.append_assoc]; rfl
    rw [List.map_cons]
    unfold compM
    rw [if_pos (show Gd none μ from True.intro), e1]
    simp only [e2, Out.bind_ok]
    cases t with
    | false =>
      rw [if_neg Bool.false_ne_true]
      exact comp_does I step rest (done ++ [x]) acc μ1 e' (hf rfl)
    | true =>
      rw [if_pos rfl]
      obtain ⟨d, μ2, e3, h3⟩ := ht rfl
      rw [e3, Out.bind_ok]
      obtain ⟨ds, μ3, e4, h4⟩ := comp_does I step rest (done ++ [x]) (acc ++ [d]) μ2 e' h3
      rw [e4, Out.bind_ok]
      refine .ok ?_
      rw [List.append_assoc] at h4
      exact h4
theorem lc_does (b : Bool) {Q : D → Mu → Prop} (hi : fi ρ μ = .ok (xs.map enc, none) μ0) (hl : xs.length ≤ sizeLine) (I : List A → List D → Mu → Prop) (h0 : I [] [] μ0)
    (step : ∀ done x rest, xs = done ++ x :: rest → ∀ acc μ, I done acc μ → ∃ ρ1, gt (enc x) (wipeE ρ vs) = some ρ1 ∧ ∃ t μ1, ft ρ1 μ = .ok t μ1 ∧ (t = false → I (done ++ [x]) acc μ1) ∧ (t = true → Does (fe ρ1 μ1) fun d μ2 => I (done ++ [x]) (acc ++ [d]) μ2))
    (fin : ∀ ds μ', I xs ds μ' → Does (mkL b ds μ') Q) : Does (lcE b fi gt ft fe vs ρ μ) Q := by
  obtain ⟨ds, μ', e, h⟩ := comp_does (ρ := wipeE ρ vs) I step xs [] [] μ0 rfl h0
  unfold lcE
  rw [hi, Out.bind_ok]
  simp only [e, okOf]
  rw [if_pos (by rw [List.length_map]; exact hl)]
  exact fin _ _ h
/-- one that changes nothing -/
theorem lc_eq (b : Bool) (hi : fi ρ μ = .ok (xs.map enc, none) μ0) (hl : xs.length ≤ sizeLine) (p : A → Bool) (f : A → D)
    (step : ∀ x ∈ xs, ∃ ρ1, gt (enc x) (wipeE ρ vs) = some ρ1 ∧ ft ρ1 μ0 = .ok (p x) μ0 ∧ (p x = true → fe ρ1 μ0 = .ok (f x) μ0)) : lcE b fi gt ft fe vs ρ μ = mkL b ((xs.filter p).map f) μ0 := by
  obtain ⟨d, μ', e, h1, h2⟩ := comp_does (ρ := wipeE ρ vs) (xs := xs) (enc := enc) (gt := gt) (ft := ft) (fe := fe) (fun done acc μ => acc = (done.filter p).map f ∧ μ = μ0) (fun done x rest e acc μ h => by
    obtain ⟨rfl, rfl⟩ := h
    obtain ⟨ρ1, e1, e2, e3⟩ := step x (by rw [e]; simp)
    refine ⟨ρ1, e1, p x, μ, e2, fun hp => ⟨?_, rfl⟩, fun hp => .of (e3 hp) ⟨?_, rfl⟩⟩
    · rw [List.filter_append, List.filter_cons_of_neg (by rw [hp]; decide), List.filter_nil, List.append_nil]
    · rw [List.filter_append, List.filter_cons_of_pos (by rw [hp]), List.filter_nil, List.map_append]
      rfl) xs [] [] μ0 rfl ⟨rfl, rfl⟩
  rw [List.nil_append] at h1
  subst h1 h2
  unfold lcE
  rw [hi, Out.bind_ok]
  simp only [e, okOf]
  rw [if_pos (by rw [List.length_map]; exact hl)]
theorem lc_map (b : Bool) (hi : fi ρ μ = .ok (xs.map enc, none) μ0) (hl : xs.length ≤ sizeLine) (f : A → D)
    (step : ∀ x ∈ xs, ∃ ρ1, gt (enc x) (wipeE ρ vs) = some ρ1 ∧ fe ρ1 μ0 = .ok (f x) μ0) : lcE b fi gt yesT fe vs ρ μ = mkL b (xs.map f) μ0 := by
  rw [lc_eq b hi hl (fun _ => true) f (fun x hx => by obtain ⟨ρ1, h1, h2⟩ := step x hx; exact ⟨ρ1, h1, rfl, fun _ => h2⟩)]
  rw [List.filter_eq_self.mpr (fun _ _ => rfl)]
end
/-! with a list that is guarded -/
section
variable {A : Type} {enc : A → D} {fi : FI} {gt : FG} {ft : FT} {fe : FE} {vs : List Nat} {ρ : Dt.Env} {μ μ0 : Mu} {xs : List A} {gd : Guard}
theorem compG_eq (hg : Gd gd μ0) (p : A → Bool) (f : A → D) : ∀ xs : List A, (∀ x ∈ xs, ∃ ρ1, gt (enc x) ρ = some ρ1 ∧ ft ρ1 μ0 = .ok (p x) μ0 ∧ (p x = true → fe ρ1 μ0 = .ok (f x) μ0)) → compM gd gt ft fe (xs.map enc) ρ μ0 = .ok ((xs.filter p).map f) μ0
  | [], _ => by
    unfold List.map compM
    rw [if_pos hg]
    rfl
  | x :: xs, h => by
    obtain ⟨ρ1, e1, e2, e3⟩ := h x List.mem_cons_self
    have ih := compG_eq hg p f xs (fun y hy => h y (List.mem_cons_of_mem _ hy))
    rw [List.map_cons]
    unfold compM
    rw [if_pos hg, e1]
    simp only [e2, Out.bind_ok]
    cases hp : p x with
    | false =>
      rw [if_neg Bool.false_ne_true, ih, List.filter_cons_of_neg (by rw [hp]; decide)]
    | true =>
      rw [if_pos rfl, e3 hp, Out.bind_ok, ih, Out.bind_ok, List.filter_cons_of_pos hp]
      rfl
theorem lcG_eq (b : Bool) (hi : fi ρ μ = .ok (xs.map enc, gd) μ0) (hg : Gd gd μ0) (hl : xs.length ≤ sizeLine) (p : A → Bool) (f : A → D)
    (step : ∀ x ∈ xs, ∃ ρ1, gt (enc x) (wipeE ρ vs) = some ρ1 ∧ ft ρ1 μ0 = .ok (p x) μ0 ∧ (p x = true → fe ρ1 μ0 = .ok (f x) μ0)) : lcE b fi gt ft fe vs ρ μ = mkL b ((xs.filter p).map f) μ0 := by
  unfold lcE
  rw [hi, Out.bind_ok]
  simp only [compG_eq hg p f xs step, okOf]
  rw [if_pos (by rw [List.length_map]; exact hl)]
end
/-! ### what is walked -/
section
variable {μ μ1 : Mu} {ρ : Dt.Env} {fa : FA} {fe : FE} {i j : Int}
theorem rng1_eq (h : fa ρ μ = .ok [.int j] μ1) (h0 : -(2 ^ 62) ≤ j) (h1 : j < 2 ^ 62) : rng1I fa ρ μ = .ok ((List.range j.toNat).map (fun (i : Nat) => D.int (0 + (i : Int))), none) μ1 := by
  unfold rng1I
  rw [h]
  show (if _ then _ else _) = _
  rw [if_pos ⟨h0, h1⟩]
  rfl
theorem rng2_eq (h : fa ρ μ = .ok [.int i, .int j] μ1) (h0 : -(2 ^ 62) ≤ i) (h1 : i < 2 ^ 62) (h2 : -(2 ^ 62) ≤ j) (h3 : j < 2 ^ 62) : rng2I fa ρ μ = .ok ((List.range (j - i).toNat).map (fun (k : Nat) => D.int (i + (k : Int))), none) μ1 := by
  unfold rng2I
  rw [h]
  show (if _ then _ else _) = _
  rw [if_pos ⟨h0, h1, h2, h3⟩]
  rfl
theorem str_eq {s : List Nat} (h : fe ρ μ = .ok (.str s) μ1) : strI fe ρ μ = .ok (s.map (fun c => D.str [c]), none) μ1 := by
  unfold strI
  rw [h]
  rfl
theorem list_eq {A : Type} {enc : A → D} {xs : List A} (h : fe ρ μ = .ok (.lst (xs.map enc)) μ1) : listI fe ρ μ = .ok (xs.map enc, none) μ1 := by
  unfold listI
  rw [h]
  rfl
end
theorem listO_eq {fe : FE} {ρ : Dt.Env} {μ μ1 : Mu} {k : Nat} {ds : List D} (h : fe ρ μ = .ok (.own k) μ1) (hk : μ1[k]? = some (.lst ds)) : listI fe ρ μ = .ok (ds, some (k, .lst ds)) μ1 := by
  unfold listI
  rw [h, Out.bind_ok]
  simp only [hk]
theorem append_eq {fo fe : FE} {ρ : Dt.Env} {μ μ1 : Mu} {k : Nat} {ds : List D} {d : D} (ho : fo ρ μ = .ok (.own k) μ) (he : fe ρ μ = .ok d μ1) (hk0 : μ[k]? = some (.lst ds)) (hk : μ1[k]? = some (.lst ds)) (hl : ds.length < sizeLine) : mthL appendD fo (consA fe nilA) ρ μ = .ok .non (μ1.set k (.lst (ds ++ [d]))) := by
  unfold mthL
  rw [ho, Out.bind_ok]
  simp only [getL, hk0, moL, consA, he, Out.bind_ok, nilA]
  unfold appendD
  simp only [hk]
  rw [if_pos hl]
theorem drop_eq {fe : FE} {ρ : Dt.Env} {μ μ1 : Mu} {d : D} (h : fe ρ μ = .ok d μ1) : dropS fe ρ μ = .ok (.nx ρ) μ1 := by
  unfold dropS
  rw [h, Out.bind_ok]
theorem R0_app (st : St) (rest t : Mu) : R0 st rest ++ t = R0 st (rest ++ t) := rfl
theorem R0_get (st : St) (rest t : Mu) (i : Nat) : (R0 st (rest ++ t))[rest.length + 2 + i]? = t[i]? := by
  show (_ :: _ :: (rest ++ t))[rest.length + 2 + i]? = _
  rw [show rest.length + 2 + i = (rest.length + i) + 1 + 1 by omega, List.getElem?_cons_succ, List.getElem?_cons_succ, List.getElem?_append_right (by omega)]
  congr 1
  omega
theorem R0_set (st : St) (rest t : Mu) (i : Nat) (x : MO) : (R0 st (rest ++ t)).set (rest.length + 2 + i) x = R0 st (rest ++ t.set i x) := by
  show (_ :: _ :: (rest ++ t)).set (rest.length + 2 + i) x = _ :: _ :: _
  rw [show rest.length + 2 + i = (rest.length + i) + 1 + 1 by omega, List.set_cons_succ, List.set_cons_succ, List.set_append_right _ _ (by omega)]
  congr 4
  omega
/-! ### defs -/
theorem closedDs_iff {n : Nat} : ∀ {ds : List D}, closedDs n ds = true ↔ ∀ d ∈ ds, closedD n d = true
  | [] => by simp [closedDs]
  | d :: ds => by
    unfold closedDs
    rw [Bool.and_eq_true, closedDs_iff (ds := ds)]
    simp
theorem closed_map {A : Type} {f : A → D} {n : Nat} {xs : List A} (h : ∀ x, closedD n (f x) = true) : closedD n (.lst (xs.map f)) = true := by
  unfold closedD
  rw [closedDs_iff]
  intro d hd
  obtain ⟨x, _, rfl⟩ := List.mem_map.mp hd
  exact h x
theorem trim_false {μ μ' : Mu} {d : D} : trim false μ d μ' = .ok d μ' := by
  unfold trim
  rw [if_neg Bool.false_ne_true]
theorem trim_true {μ μ' : Mu} {d : D} (h : TrimOk μ d μ') : trim true μ d μ' = .ok d (μ'.take μ.length) := by
  unfold trim
  rw [if_pos rfl, if_pos h]
theorem trim_app {μ ν : Mu} {d : D} (h : closedD μ.length d = true) : trim true μ d (μ ++ ν) = .ok d μ := by
  rw [trim_true ⟨h, fun i m hi e => .inl (by rw [List.getElem?_append_left hi] at e; exact e)⟩, List.take_left]
theorem trim_id {μ : Mu} {d : D} (h : closedD μ.length d = true) : trim true μ d μ = .ok d μ := by
  have := trim_app (ν := []) h
  rw [List.append_nil] at this
  exact this
theorem R0_len (st : St) (rest : Mu) : (R0 st rest).length = rest.length + 2 := rfl
theorem trim_R0_app {st st' : St} {rest ν : Mu} {d : D} (h : closedD (rest.length + 2) d = true) : trim true (R0 st rest) d (R0 st' rest ++ ν) = .ok d (R0 st' rest) := by
  have e : (R0 st' rest ++ ν).take (R0 st rest).length = R0 st' rest := by
    show (R0 st' rest ++ ν).take (R0 st' rest).length = _
    exact List.take_left
  have hT : TrimOk (R0 st rest) d (R0 st' rest ++ ν) := by
    refine ⟨h, fun i m hi e => ?_⟩
    rw [List.getElem?_append_left (by exact hi)] at e
    match i, e with
    | 0, e =>
      cases (Option.some.inj e)
      exact .inr (closed_map (n := rest.length + 2) fun x => rfl)
    | 1, e =>
      cases (Option.some.inj e)
      refine .inr ?_
      show closedDs (rest.length + 2) [.int _, .own 0, .int _] = true
      simp [closedDs, closedD]
    | i + 2, e => exact .inl e
  rw [trim_true hT, e]
theorem trim_R0 {st st' : St} {rest : Mu} {d : D} (h : closedD (rest.length + 2) d = true) : trim true (R0 st rest) d (R0 st' rest) = .ok d (R0 st' rest) := by
  have := trim_R0_app (st := st) (st' := st') (ν := []) h
  rw [List.append_nil] at this
  exact this
section
variable {n : Nat} {tr : Bool} {fb : FS} {ds : List D} {d : D} {μ μ' : Mu} {P : D → Mu → Prop}
theorem fn_eq (h : fb (startE n ds) μ = .ok (.rt d) μ') : fnF n tr fb ds μ = trim tr μ d μ' := by
  unfold fnF
  rw [h]
theorem fn_does (h : Does (fb (startE n ds) μ) fun fl μ' => ∃ d, fl = .rt d ∧ Does (trim tr μ d μ') P) : Does (fnF n tr fb ds μ) P := by
  obtain ⟨fl, μ', e, d, rfl, h⟩ := h
  rw [fn_eq e]
  exact h
/-- of a state of the law -/
theorem fn_R0 {st : St} {rest : Mu} (h : Does (fb (startE n ds) (R0 st rest)) fun fl μ' => ∃ d st' ν, fl = .rt d ∧ μ' = R0 st' rest ++ ν ∧ closedD (rest.length + 2) d = true ∧ P d (R0 st' rest)) : Does (fnF n true fb ds (R0 st rest)) P := by
  obtain ⟨fl, μ', e, d, st', ν, rfl, rfl, h1, h2⟩ := h
  rw [fn_eq e, trim_R0_app h1]
  exact .ok h2
end
/-- a call whose answer is known by a property -/
theorem cll_does {g : FF} {n : Nat} {fa : FA} {ρ : Dt.Env} {μ μ1 : Mu} {ds : List D} {P : D → Mu → Prop} (h : fa ρ μ = .ok ds μ1) (hn : ds.length = n) (hg : Does (g ds μ1) P) : Does (cllE g n fa ρ μ) P := by
  unfold cllE
  rw [h, Out.bind_ok, if_pos hn]
  exact hg
/-- x = e with a name: what e is known by, then the rest -/
theorem asg_does {fe : FE} {i : Nat} {f : FS} {ρ : Dt.Env} {μ : Mu} {P : D → Mu → Prop} {R : Fl → Mu → Prop} (h : Does (fe ρ μ) P) (k : ∀ d μ', P d μ' → Does (f (ρ.set i (some d)) μ') R) : Does (seqS (asgS fe (nameG i)) f ρ μ) R := by
  obtain ⟨d, μ', e, hp⟩ := h
  unfold seqS asgS
  simp only [e, Out.bind_ok, nameG]
  exact k d μ' hp
theorem ret_does {fe : FE} {ρ : Dt.Env} {μ : Mu} {P : D → Mu → Prop} {R : Fl → Mu → Prop} (h : Does (fe ρ μ) P) (k : ∀ d μ', P d μ' → R (.rt d) μ') : Does (retS fe ρ μ) R := by
  obtain ⟨d, μ', e, hp⟩ := h
  unfold retS
  rw [e]
  exact .ok (k d μ' hp)
theorem op2_does {g : D → D → Mu → Out D} {fa fb : FE} {ρ : Dt.Env} {μ : Mu} {P Q : D → Mu → Prop} {R : D → Mu → Prop} (ha : Does (fa ρ μ) P) (hb : ∀ x μ1, P x μ1 → Does (fb ρ μ1) fun y μ2 => Does (g x y μ2) R) : Does (op2 g fa fb ρ μ) R := by
  unfold op2
  exact ha.bind fun x μ1 hx => (hb x μ1 hx).bind fun y μ2 hy => hy
theorem op2_eq {g : D → D → Mu → Out D} {fa fb : FE} {ρ : Dt.Env} {μ μ1 μ2 : Mu} {x y : D} (ha : fa ρ μ = .ok x μ1) (hb : fb ρ μ1 = .ok y μ2) : op2 g fa fb ρ μ = g x y μ2 := by
  unfold op2
  rw [ha, Out.bind_ok, hb, Out.bind_ok]
theorem ret_eq {fe : FE} {ρ : Dt.Env} {μ μ1 : Mu} {d : D} (h : fe ρ μ = .ok d μ1) : retS fe ρ μ = .ok (.rt d) μ1 := by
  unfold retS
  rw [h, Out.bind_ok]
theorem asg_eq {fe : FE} {g : FG} {ρ ρ' : Dt.Env} {μ μ' : Mu} {d : D} (h : fe ρ μ = .ok d μ') (h2 : g d ρ = some ρ') : asgS fe g ρ μ = .ok (.nx ρ') μ' := by
  unfold asgS
  simp only [h, Out.bind_ok, h2]
theorem cll_eq {g : FF} {n : Nat} {fa : FA} {ρ : Dt.Env} {μ μ1 μ2 : Mu} {ds : List D} {d : D} (h : fa ρ μ = .ok ds μ1) (hn : ds.length = n) (hg : g ds μ1 = .ok d μ2) : cllE g n fa ρ μ = .ok d μ2 := by
  unfold cllE
  rw [h, Out.bind_ok, if_pos hn, hg]
theorem test_eq {fe : FE} {ρ : Dt.Env} {μ μ1 : Mu} {b : Bool} (h : fe ρ μ = .ok (.bl b) μ1) : toB fe ρ μ = .ok b μ1 := by
  unfold toB
  rw [h, Out.bind_ok]
theorem if_eq_t {fc : FT} {f g : FS} {ρ : Dt.Env} {μ μ1 : Mu} {o : Out Fl} (h : fc ρ μ = .ok true μ1) (k : f ρ μ1 = o) : ifS fc f g ρ μ = o := by
  unfold ifS
  rw [h, Out.bind_ok, if_pos rfl, k]
theorem if_eq_f {fc : FT} {f g : FS} {ρ : Dt.Env} {μ μ1 : Mu} {o : Out Fl} (h : fc ρ μ = .ok false μ1) (k : g ρ μ1 = o) : ifS fc f g ρ μ = o := by
  unfold ifS
  rw [h, Out.bind_ok, if_neg Bool.false_ne_true, k]
theorem filter_empty {A B : Type} (p : A → Bool) (f : A → B) (xs : List A) : ((xs.filter p).map f).isEmpty = !xs.any p := by
  induction xs with
  | nil => rfl
  | cons x xs ih =>
    rw [List.any_cons]
    cases h : p x with
    | true => rw [List.filter_cons_of_pos h]; rfl
    | false => rw [List.filter_cons_of_neg (by rw [h]; decide), ih]; rfl
theorem fnO_eq {n : Nat} {fb : FS} {ds : List D} {μ ν : Mu} {es : List D} (h : fb (startE n ds) μ = .ok (.rt (.own (μ ++ ν).length)) (μ ++ ν ++ [.lst es])) (hc : closedDs μ.length es = true) : fnO n fb ds μ = .ok (.own μ.length) (μ ++ [.lst es]) := by
  unfold fnO
  rw [h]
  have h1 : (μ ++ ν ++ [MO.lst es])[(μ ++ ν).length]? = some (.lst es) := by rw [List.getElem?_append_right (Nat.le_refl _), Nat.sub_self]; rfl
  have h2 : (μ ++ ν ++ [MO.lst es]).take μ.length = μ := by rw [List.append_assoc, List.take_left]
  show trimO μ (.own (μ ++ ν).length) _ = _
  unfold trimO
  simp only [h1, moL]
  rw [if_pos ⟨by rw [List.length_append]; omega, hc, fun i m hi e => .inl (by rw [List.append_assoc, List.getElem?_append_left hi] at e; exact e)⟩, h2]
theorem next_does (st : St) (rest : Mu) {m : Int} (h0 : 0 < m) (h1 : m < 1073741824) : Does (g_law_next [.own 1, .int m] (R0 st rest)) fun d μ => ∃ (v : Int) (st' : St), d = .int v ∧ μ = R0 st' rest ∧ 0 ≤ v ∧ v < m := by
  obtain ⟨v, st', e, h2, h3⟩ := next_ok st rest h0 h1
  exact .of e ⟨v, st', rfl, rfl, h2, h3⟩
theorem law_start (seed : Int) (ns : List Int) (ρ : Dt.Env) : asgS (lstE true (consA (cE (.int seed)) (consA (callE (listD true) (consA (vE 0) nilA)) (consA (cE (.int 0)) nilA)))) (nameG 1) (some (.scr ns) :: none :: ρ) [] = .ok (.nx (some (.scr ns) :: some (.own 1) :: ρ)) (R0 ⟨seed, ns, 0⟩ []) := rfl
end Dm

/-! Dm3: what the laws draw: letters, rows, scales. -/
namespace Dm
open Dt Fn
open L2 (atI ixN CMul CDiv CPow)
open PySem (sizeLine)
theorem joinG_nil : ∀ ss : List (List Nat), joinG [] ss = ss.flatten
  | [] => rfl
  | [p] => by simp [joinG]
  | p :: q :: r => by
    unfold joinG
    rw [joinG_nil (q :: r)]
    simp
theorem chars_flat (cs : List Nat) : (cs.map fun c => [c]).flatten = cs := by
  induction cs with
  | nil => rfl
  | cons c cs ih => rw [List.map_cons, List.flatten_cons, ih]; rfl
def chD (c : Nat) : D := .str [c]
theorem chD_map (cs : List Nat) : cs.map chD = (cs.map fun c => [c]).map D.str := by rw [List.map_map]; rfl
theorem joinD_chars {cs : List Nat} {μ : Mu} (hl : cs.length ≤ 1000000) : joinD (.str []) (.lst (cs.map chD)) μ = .ok (.str cs) μ := by
  rw [chD_map]
  unfold joinD getL
  simp only [toStrs_map]
  have h1 : ((cs.map fun c => [c]).map List.length).sum = cs.length := by
    clear hl
    induction cs with
    | nil => rfl
    | cons c cs ih => simp only [List.map_cons, List.sum_cons, ih, List.length_cons, List.length_nil]; omega
  rw [h1, if_pos (by simp; exact hl), joinG_nil, chars_flat]
theorem join_chars {fe : FE} {ρ : Dt.Env} {μ : Mu} {P : D → Mu → Prop} (h : Does (fe ρ μ) fun d μ' => ∃ cs : List Nat, d = .lst (cs.map chD) ∧ cs.length ≤ 1000000 ∧ P (.str cs) μ') : Does (mth1 joinD (cE (.str [])) fe ρ μ) P := by
  obtain ⟨d, μ', e, cs, rfl, hl, hp⟩ := h
  unfold mth1
  simp only [cE, Out.bind_ok, e, joinD_chars hl]
  exact .ok hp
theorem join_chars_eq {fe : FE} {ρ : Dt.Env} {μ μ' : Mu} {cs : List Nat} (h : fe ρ μ = .ok (.lst (cs.map chD)) μ') (hl : cs.length ≤ 1000000) : mth1 joinD (cE (.str [])) fe ρ μ = .ok (.str cs) μ' := by
  unfold mth1
  simp only [cE, Out.bind_ok, h, joinD_chars hl]
def abc : List Nat := [97, 98, 99, 100, 101, 102, 103, 104, 105, 106, 107, 108, 109, 110, 111, 112, 113, 114, 115, 116, 117, 118, 119, 120, 121, 122]
theorem abc_at : ∀ n : Nat, n < 26 → abc[n]? = some (97 + n) := by decide
structure Letters (L : List Nat) : Prop where
  lo : 2 ≤ L.length
  hi : L.length ≤ 6
  ab : ∀ c ∈ L, 97 ≤ c ∧ c < 123
  nd : L.Nodup
theorem letters_nd {t : Int} {n : Nat} (hn : n ≤ 6) : ((List.range n).map fun (k : Nat) => 97 + ((t + 7 * (0 + (k : Int))) % 26).toNat).Nodup := by
  rw [List.nodup_iff_pairwise_ne, List.pairwise_map]
  have h := List.nodup_range (n := n)
  rw [List.nodup_iff_pairwise_ne] at h
  refine h.imp_of_mem fun {a b} ha hb hab e => ?_
  rw [List.mem_range] at ha hb
  have h1 : 0 ≤ (t + 7 * (0 + (a : Int))) % 26 := Int.emod_nonneg _ (by decide)
  have h2 : 0 ≤ (t + 7 * (0 + (b : Int))) % 26 := Int.emod_nonneg _ (by decide)
  have : (t + 7 * (0 + (a : Int))) % 26 = (t + 7 * (0 + (b : Int))) % 26 := by omega
  omega
theorem letters_ok (st : St) (rest : Mu) : ∃ (L : List Nat) (st' : St), g_law_letters [.own 1] (R0 st rest) = .ok (.str L) (R0 st' rest) ∧ Letters L := by
  have key : Does (g_law_letters [.own 1] (R0 st rest)) fun d μ => ∃ L st', d = .str L ∧ μ = R0 st' rest ∧ Letters L := by
    rw [e_law_letters]
    refine fn_R0 ?_
    show Does (b_law_letters [some (.own 1), none, none] (R0 st rest)) _
    unfold b_law_letters
    refine asg_does (cll_does (ds := [.own 1, .int 26]) rfl rfl (next_does st rest (by decide) (by decide))) ?_
    rintro _ _ ⟨t, st1, rfl, rfl, t0, t1⟩
    obtain ⟨v, st2, e, v0, v1⟩ := next_ok st1 rest (m := 5) (by decide) (by decide)
    have hi : (rng1I (consA (op2 (addD false) (cE (.int 2)) (cllE Fn.g_law_next 2 (consA (vE 0) (consA (cE (.int 5)) nilA)))) nilA)) [some (.own 1), some (.int t), none] (R0 st1 rest) = .ok ((List.range (2 + v).toNat).map (fun (i : Nat) => D.int (0 + (i : Int))), none) (R0 st2 rest) :=
      rng1_eq (by simp only [asgS, retS, retNS, dropS, ifS, setS, nilS, op2, op1, toB, ifE, andE, orE, notE, andT, orT, notT, consA, nilA, tupE, lstE, callE, cllE, mth1, mthL, vE, cE, nameG, tupG, consG, nilG, slE, noO, someO, thenF, Out.bind_ok, List.getElem?_cons_succ, List.getElem?_cons_zero, List.set_cons_zero, List.set_cons_succ, List.length_cons, List.length_nil, Option.bind_some, Nat.zero_add, Nat.reduceAdd, Nat.reduceLeDiff, ↓reduceIte, addD_ii, addD_ss, subD_ii, mulD_ii, fdivD_ii, modD_ii, ltD_ii, leD_ii, gtD_ii, geD_ii, eqD_ii, neD_ii, eqD_ss, neD_ss, max2D_ii, min2D_ii, lenD_s, lenD_l, lenD_t, ixD_l, ixD_t, ixD_o, ixD_s, mkL_f, mkL_t, optD_some, Option.map_some, e, ite_true]) (by omega) (by omega)
    have hc := lc_map (gt := nameG 2) (vs := [2]) (fe := (op2 ixD (cE (.str abc)) (op2 modD (op2 (addD false) (vE 1) (op2 mulD (cE (.int 7)) (vE 2))) (cE (.int 26))))) false hi (by rw [List.length_range, PySem.sizeLine_eq]; omega) (fun (k : Nat) => chD (97 + ((t + 7 * (0 + (k : Int))) % 26).toNat)) (fun k hk => by
      refine ⟨_, rfl, ?_⟩
      have c1 : CMul 7 (0 + (k : Int)) := .inl ⟨by decide, by decide⟩
      have c2 : (0 : Int) < 26 := by decide
      have b0 : 0 ≤ (t + 7 * (0 + (k : Int))) % 26 := Int.emod_nonneg _ (by decide)
      have b1 : (t + 7 * (0 + (k : Int))) % 26 < 26 := Int.emod_lt_of_pos _ (by decide)
      have hx : atI abc ((t + 7 * (0 + (k : Int))) % 26) = some (97 + ((t + 7 * (0 + (k : Int))) % 26).toNat) := atI_nat b0 (abc_at _ (by omega))
      simp only [asgS, retS, retNS, dropS, ifS, setS, nilS, op2, op1, toB, ifE, andE, orE, notE, andT, orT, notT, consA, nilA, tupE, lstE, callE, cllE, mth1, mthL, vE, cE, nameG, tupG, consG, nilG, slE, noO, someO, thenF, Out.bind_ok, List.getElem?_cons_succ, List.getElem?_cons_zero, List.set_cons_zero, List.set_cons_succ, List.length_cons, List.length_nil, Option.bind_some, Nat.zero_add, Nat.reduceAdd, Nat.reduceLeDiff, ↓reduceIte, addD_ii, addD_ss, subD_ii, mulD_ii, fdivD_ii, modD_ii, ltD_ii, leD_ii, gtD_ii, geD_ii, eqD_ii, neD_ii, eqD_ss, neD_ss, max2D_ii, min2D_ii, lenD_s, lenD_l, lenD_t, ixD_l, ixD_t, ixD_o, ixD_s, mkL_f, mkL_t, optD_some, Option.map_some, wipeE, if_pos c1, if_pos c2, hx]
      rfl)
    refine ret_does (P := fun d μ' => d = .str ((List.range (2 + v).toNat).map fun (k : Nat) => 97 + ((t + 7 * (0 + (k : Int))) % 26).toNat) ∧ μ' = R0 st2 rest) ?_ ?_
    · refine .of (join_chars_eq (by rw [List.map_map]; exact hc) (by rw [List.length_map, List.length_range]; omega)) ⟨rfl, rfl⟩
    · rintro d μ' ⟨rfl, rfl⟩
      refine ⟨_, st2, [], rfl, (List.append_nil _).symm, rfl, _, st2, rfl, rfl, by rw [List.length_map, List.length_range]; omega, by rw [List.length_map, List.length_range]; omega, fun c hc => ?_, letters_nd (by omega)⟩
      obtain ⟨k, _, rfl⟩ := List.mem_map.mp hc
      have b0 : 0 ≤ (t + 7 * (0 + (k : Int))) % 26 := Int.emod_nonneg _ (by decide)
      have b1 : (t + 7 * (0 + (k : Int))) % 26 < 26 := Int.emod_lt_of_pos _ (by decide)
      omega
  obtain ⟨d, μ, e, L, st', rfl, rfl, h⟩ := key
  exact ⟨L, st', e, h⟩
/-- a sign that is drawn from a text -/
theorem draw_ok {L : List Nat} (h0 : L ≠ []) (h1 : L.length < 1073741824) (st : St) (rest : Mu) : ∃ (c : Nat) (v : Int) (st' : St), g_law_next [.own 1, .int (L.length : Nat)] (R0 st rest) = .ok (.int v) (R0 st' rest) ∧ atI L v = some c ∧ c ∈ L := by
  have : 0 < L.length := by cases L with | nil => exact absurd rfl h0 | cons => simp
  obtain ⟨v, st', e, v0, v1⟩ := next_ok st rest (m := (L.length : Nat)) (by omega) (by omega)
  obtain ⟨c, hc⟩ := get_ex (show v.toNat < L.length by omega)
  exact ⟨c, v, st', e, atI_nat v0 hc, List.mem_of_getElem? hc⟩
theorem row_ok {L : List Nat} (h0 : L ≠ []) (h1 : L.length < 1073741824) {most : Int} (m0 : 0 ≤ most) (m1 : most ≤ 1000) (st : St) (rest : Mu) : ∃ (r : List Nat) (st' : St), g_law_row [.own 1, .str L, .int most] (R0 st rest) = .ok (.str r) (R0 st' rest) ∧ r.length ≤ most.toNat ∧ ∀ c ∈ r, c ∈ L := by
  have key : Does (g_law_row [.own 1, .str L, .int most] (R0 st rest)) fun d μ => ∃ (r : List Nat) (st' : St), d = .str r ∧ μ = R0 st' rest ∧ r.length ≤ most.toNat ∧ ∀ c ∈ r, c ∈ L := by
    rw [e_law_row]
    refine fn_R0 ?_
    show Does (b_law_row [some (.own 1), some (.str L), some (.int most), none] (R0 st rest)) _
    unfold b_law_row
    obtain ⟨v, st2, e, v0, v1⟩ := next_ok st rest (m := most + 1) (by omega) (by omega)
    have hi : (rng1I (consA (cllE Fn.g_law_next 2 (consA (vE 0) (consA (op2 (addD false) (vE 2) (cE (.int 1))) nilA))) nilA)) [some (.own 1), some (.str L), some (.int most), none] (R0 st rest) = .ok ((List.range v.toNat).map (fun (i : Nat) => D.int (0 + (i : Int))), none) (R0 st2 rest) :=
      rng1_eq (by simp only [asgS, retS, retNS, dropS, ifS, setS, nilS, op2, op1, toB, ifE, andE, orE, notE, andT, orT, notT, consA, nilA, tupE, lstE, callE, cllE, mth1, mthL, vE, cE, nameG, tupG, consG, nilG, slE, noO, someO, thenF, Out.bind_ok, List.getElem?_cons_succ, List.getElem?_cons_zero, List.set_cons_zero, List.set_cons_succ, List.length_cons, List.length_nil, Option.bind_some, Nat.zero_add, Nat.reduceAdd, Nat.reduceLeDiff, ↓reduceIte, addD_ii, addD_ss, subD_ii, mulD_ii, fdivD_ii, modD_ii, ltD_ii, leD_ii, gtD_ii, geD_ii, eqD_ii, neD_ii, eqD_ss, neD_ss, max2D_ii, min2D_ii, lenD_s, lenD_l, lenD_t, ixD_l, ixD_t, ixD_o, ixD_s, mkL_f, mkL_t, optD_some, Option.map_some, e, ite_true]) (by omega) (by omega)
    refine ret_does (join_chars (P := fun d μ' => ∃ (r : List Nat) (st' : St), d = .str r ∧ μ' = R0 st' rest ∧ r.length ≤ most.toNat ∧ ∀ c ∈ r, c ∈ L) ?_) ?_
    · refine lc_does false hi (by rw [List.length_range, PySem.sizeLine_eq]; omega) (fun done acc μ => ∃ (r : List Nat) (st' : St), acc = r.map chD ∧ μ = R0 st' rest ∧ r.length = done.length ∧ ∀ c ∈ r, c ∈ L) ⟨[], st2, rfl, rfl, rfl, fun c hc => by cases hc⟩ ?_ ?_
      · rintro done x rst hx acc μ ⟨r, st3, rfl, rfl, hl, hr⟩
        obtain ⟨c, v', st4, e4, e5, e6⟩ := draw_ok h0 h1 st3 rest
        refine ⟨_, rfl, true, _, rfl, (fun z => by cases z), fun _ => ?_⟩
        refine .of (b := chD c) (μ := R0 st4 rest) (by simp only [asgS, retS, retNS, dropS, ifS, setS, nilS, op2, op1, toB, ifE, andE, orE, notE, andT, orT, notT, consA, nilA, tupE, lstE, callE, cllE, mth1, mthL, vE, cE, nameG, tupG, consG, nilG, slE, noO, someO, thenF, Out.bind_ok, List.getElem?_cons_succ, List.getElem?_cons_zero, List.set_cons_zero, List.set_cons_succ, List.length_cons, List.length_nil, Option.bind_some, Nat.zero_add, Nat.reduceAdd, Nat.reduceLeDiff, ↓reduceIte, addD_ii, addD_ss, subD_ii, mulD_ii, fdivD_ii, modD_ii, ltD_ii, leD_ii, gtD_ii, geD_ii, eqD_ii, neD_ii, eqD_ss, neD_ss, max2D_ii, min2D_ii, lenD_s, lenD_l, lenD_t, ixD_l, ixD_t, ixD_o, ixD_s, mkL_f, mkL_t, optD_some, Option.map_some, wipeE, e4, e5, ite_true]; rfl) ⟨r ++ [c], st4, by rw [List.map_append]; rfl, rfl, by rw [List.length_append, List.length_append, hl]; rfl, fun c' hc' => ?_⟩
        rcases List.mem_append.mp hc' with z | z
        · exact hr c' z
        · rw [List.mem_singleton.mp z]; exact e6
      · rintro ds μ' ⟨r, st3, rfl, rfl, hl, hr⟩
        rw [List.length_range] at hl
        exact .ok ⟨r, rfl, by omega, r, st3, rfl, rfl, by omega, hr⟩
    · rintro d μ' ⟨r, st3, rfl, rfl, hl, hr⟩
      exact ⟨_, st3, [], rfl, (List.append_nil _).symm, rfl, r, st3, rfl, rfl, hl, hr⟩
  obtain ⟨d, μ, e, r, st', rfl, rfl, h⟩ := key
  exact ⟨r, st', e, h⟩
structure Scale (a b : Int) : Prop where
  a0 : 1 ≤ a
  a1 : a ≤ 9
  b0 : 1 ≤ b
  b1 : b ≤ 9
theorem scale_ok (st : St) (rest : Mu) : ∃ (a b : Int) (st' : St), g_law_scale [.own 1] (R0 st rest) = .ok (.tup [.int a, .int b]) (R0 st' rest) ∧ Scale a b := by
  obtain ⟨v, st1, e1, v0, v1⟩ := next_ok st rest (m := 2) (by decide) (by decide)
  obtain ⟨m, hm, m0, m1⟩ : ∃ m : Int, atI [D.int 9, D.int 3] v = some (.int m) ∧ 0 < m ∧ m ≤ 9 := by
    rcases (show v = 0 ∨ v = 1 by omega) with rfl | rfl
    · exact ⟨9, rfl, by decide, by decide⟩
    · exact ⟨3, rfl, by decide, by decide⟩
  obtain ⟨x, st2, e2, x0, x1⟩ := next_ok st1 rest (m := m) m0 (by omega)
  obtain ⟨y, st3, e3, y0, y1⟩ := next_ok st2 rest (m := 9) (by decide) (by decide)
  refine ⟨1 + x, 1 + y, st3, ?_, by omega, by omega, by omega, by omega⟩
  rw [e_law_scale]
  rw [fn_eq (d := .tup [.int (1 + x), .int (1 + y)]) (μ' := R0 st3 rest), trim_R0 (by rfl)]
  show b_law_scale [some (.own 1)] (R0 st rest) = _
  unfold b_law_scale
  have hs : ([] : List D).length + 1 + 1 ≤ 1000 := by decide
  simp only [asgS, retS, retNS, dropS, ifS, setS, nilS, op2, op1, toB, ifE, andE, orE, notE, andT, orT, notT, consA, nilA, tupE, lstE, callE, cllE, mth1, mthL, vE, cE, nameG, tupG, consG, nilG, slE, noO, someO, thenF, Out.bind_ok, List.getElem?_cons_succ, List.getElem?_cons_zero, List.set_cons_zero, List.set_cons_succ, List.length_cons, List.length_nil, Option.bind_some, Nat.zero_add, Nat.reduceAdd, Nat.reduceLeDiff, ↓reduceIte, addD_ii, addD_ss, subD_ii, mulD_ii, fdivD_ii, modD_ii, ltD_ii, leD_ii, gtD_ii, geD_ii, eqD_ii, neD_ii, eqD_ss, neD_ss, max2D_ii, min2D_ii, lenD_s, lenD_l, lenD_t, ixD_l, ixD_t, ixD_o, ixD_s, mkL_f, mkL_t, optD_some, Option.map_some, e1, hm, e2, e3, ite_true, if_pos hs]
end Dm

/-! Dm4: likeness of what is found and what is due. -/
namespace Dm
open Dt Fn
open L2 (atI ixN CMul CDiv CPow)
open PySem (sizeLine)
mutual
/-- numbers, truth values, texts; lists and tuples of these, so deep at most -/
def good : Nat → D → Bool
  | _, .int _ => true
  | _, .bl _ => true
  | _, .str _ => true
  | n + 1, .lst ds => decide (ds.length ≤ 1000000) && goods n ds
  | n + 1, .tup ds => decide (ds.length ≤ 1000000) && goods n ds
  | _, _ => false
def goods : Nat → List D → Bool
  | _, [] => true
  | n, d :: ds => good n d && goods n ds
end
theorem goods_iff {n : Nat} : ∀ {ds : List D}, goods n ds = true ↔ ∀ d ∈ ds, good n d = true
  | [] => by simp [goods]
  | d :: ds => by
    unfold goods
    rw [Bool.and_eq_true, goods_iff (ds := ds)]
    simp
theorem good_map {A : Type} {f : A → D} {n : Nat} {xs : List A} (hl : xs.length ≤ 1000000) (h : ∀ x ∈ xs, good n (f x) = true) : good (n + 1) (.lst (xs.map f)) = true := by
  unfold good
  rw [Bool.and_eq_true, goods_iff]
  refine ⟨decide_eq_true (by rw [List.length_map]; exact hl), fun d hd => ?_⟩
  obtain ⟨x, hx, rfl⟩ := List.mem_map.mp hd
  exact h x hx
theorem isi1 {x : D} {μ : Mu} {a T : String} {b : Bool} (h : tyD x μ = some a) (k : kitD a T = some b) : isiF [x, .ty T] μ = .ok (.bl b) μ := by
  simp only [isiF, h, k]
theorem isi2 {x : D} {μ : Mu} {a T U : String} {b c : Bool} (h : tyD x μ = some a) (k : kitD a T = some b) (k2 : kitD a U = some c) : isiF [x, .tup [.ty T, .ty U]] μ = .ok (.bl (b || c)) μ := by
  simp only [isiF, h, k, k2]
def tyName : D → String
  | .int _ => "int" | .bl _ => "bool" | .str _ => "str" | .lst _ => "list" | .tup _ => "tuple" | _ => ""
theorem deref_own {k : Nat} {μ : Mu} {z : D} {n : Nat} (h : deref (.own k) μ = z) (g : good n z = true) : ∃ ds, z = .lst ds ∧ μ[k]? = some (.lst ds) := by
  unfold deref at h
  cases e : moL μ[k]? with
  | none => simp only [e] at h; subst h; cases n <;> cases g
  | some ds => simp only [e] at h; exact ⟨ds, h.symm, moL_of e⟩
theorem deref_no {x : D} {μ : Mu} (h : ∀ k, x ≠ .own k) : deref x μ = x := by
  cases x with
  | own k => exact absurd rfl (h k)
  | _ => rfl
theorem good_own {n : Nat} {z : D} (g : good n z = true) : ∀ k, z ≠ .own k := fun k e => by subst e; cases n <;> cases g
theorem tyD_good {x z : D} {μ : Mu} {n : Nat} (h : deref x μ = z) (g : good n z = true) : tyD x μ = some (tyName z) := by
  cases x with
  | own k =>
    obtain ⟨ds, rfl, e⟩ := deref_own h g
    simp only [tyD, e, moL, tyName]
  | int i => subst h; rfl
  | bl i => subst h; rfl
  | str i => subst h; rfl
  | lst i => subst h; rfl
  | tup i => subst h; rfl
  | non => subst h; cases n <;> cases g
  | ref a => subst h; cases n <;> cases g
  | ty a => subst h; cases n <;> cases g
  | obj a _ _ => subst h; cases n <;> cases g
  | scr a => subst h; cases n <;> cases g
def isC : D → Bool
  | .lst _ => true
  | .tup _ => true
  | _ => false
def itemsD : D → List D
  | .lst ds => ds
  | .tup ds => ds
  | _ => []
theorem len_good {x z : D} {μ : Mu} {n : Nat} (h : deref x μ = z) (g : good n z = true) (hc : isC z = true) : lenD [x] μ = .ok (.int (itemsD z).length) μ := by
  cases x with
  | own k =>
    obtain ⟨ds, rfl, e⟩ := deref_own h g
    rw [lenD_o e]
    rfl
  | lst ds => subst h; rfl
  | tup ds => subst h; rfl
  | int i => subst h; cases hc
  | bl i => subst h; cases hc
  | str i => subst h; cases hc
  | non => subst h; cases n <;> cases g
  | ref a => subst h; cases n <;> cases g
  | ty a => subst h; cases n <;> cases g
  | obj a _ _ => subst h; cases n <;> cases g
  | scr a => subst h; cases n <;> cases g
theorem ix_good {x z : D} {μ : Mu} {n : Nat} {i : Nat} {d : D} (h : deref x μ = z) (g : good n z = true) (hc : isC z = true) (hi : (itemsD z)[i]? = some d) : ixD x (.int (0 + (i : Int))) μ = .ok d μ := by
  have hz : atI (itemsD z) (0 + (i : Int)) = some d := atI_nat (by omega) (by rw [show (0 + (i : Int)).toNat = i by omega]; exact hi)
  cases x with
  | own k =>
    obtain ⟨ds, rfl, e⟩ := deref_own h g
    rw [ixD_o e, show ds = itemsD (.lst ds) from rfl, hz]
    rfl
  | lst ds => subst h; rw [ixD_l, show atI ds _ = some d from hz]; rfl
  | tup ds => subst h; rw [ixD_t, show atI ds _ = some d from hz]; rfl
  | int i => subst h; cases hc
  | bl i => subst h; cases hc
  | str i => subst h; cases hc
  | non => subst h; cases n <;> cases g
  | ref a => subst h; cases n <;> cases g
  | ty a => subst h; cases n <;> cases g
  | obj a _ _ => subst h; cases n <;> cases g
  | scr a => subst h; cases n <;> cases g
theorem goods_items {n : Nat} {z : D} (g : good (n + 1) z = true) (hc : isC z = true) : (itemsD z).length ≤ 1000000 ∧ ∀ d ∈ itemsD z, good n d = true := by
  cases z with
  | lst ds =>
    unfold good at g
    rw [Bool.and_eq_true, goods_iff] at g
    exact ⟨of_decide_eq_true g.1, g.2⟩
  | tup ds =>
    unfold good at g
    rw [Bool.and_eq_true, goods_iff] at g
    exact ⟨of_decide_eq_true g.1, g.2⟩
  | _ => cases hc
theorem neD_bb {a b : Bool} {μ : Mu} : neD (.bl a) (.bl b) μ = .ok (.bl (!decide (a = b))) μ := by cases a <;> cases b <;> simp [neD, deref, plain, eqvD]
theorem eqD_bb {a b : Bool} {μ : Mu} : eqD (.bl a) (.bl b) μ = .ok (.bl (decide (a = b))) μ := by cases a <;> cases b <;> simp [eqD, deref, plain, eqvD]
theorem eqD_self {z : D} {μ : Mu} {n : Nat} (g : good n z = true) (h : isC z = false) : eqD z z μ = .ok (.bl true) μ := by
  cases z with
  | int i => rw [eqD_ii]; simp
  | bl i => rw [eqD_bb]; simp
  | str i => rw [eqD_ss]; simp
  | lst _ => cases h
  | tup _ => cases h
  | _ => cases n <;> cases g
theorem same_ok : ∀ (n : Nat) (x y z : D) (μ : Mu), deref x μ = z → deref y μ = z → good n z = true → g_law_same (n + 1) [x, y] μ = .ok (.bl true) μ := by
  intro n
  induction n using Nat.strongRecOn with
  | ind n ih =>
  intro x y z μ hx hy g
  have tx := tyD_good hx g
  have ty := tyD_good hy g
  rw [e_law_same]
  rw [fn_eq (d := .bl true) (μ' := μ), trim_id (by rfl)]
  show b_law_same (g_law_same n) [some x, some y, none] μ = _
  unfold b_law_same
  have hlt : (tupE (consA (cE (.ty "list")) (consA (cE (.ty "tuple")) nilA))) [some x, some y, none] μ = .ok (.tup [.ty "list", .ty "tuple"]) μ := by simp only [asgS, retS, retNS, dropS, ifS, setS, nilS, op2, op1, toB, ifE, andE, orE, notE, andT, orT, notT, consA, nilA, tupE, lstE, callE, cllE, mth1, mthL, vE, cE, nameG, tupG, consG, nilG, slE, noO, someO, thenF, Out.bind_ok, List.getElem?_cons_succ, List.getElem?_cons_zero, List.set_cons_zero, List.set_cons_succ, List.length_cons, List.length_nil, Option.bind_some, Nat.zero_add, Nat.reduceAdd, Nat.reduceLeDiff, ↓reduceIte]
  by_cases hc : isC z = true
  · obtain ⟨n, rfl⟩ : ∃ m, n = m + 1 := by
      cases n with
      | zero => cases z <;> first | (cases hc; done) | (cases g; done)
      | succ m => exact ⟨m, rfl⟩
    obtain ⟨hl, hg⟩ := goods_items g hc
    have k1 : ∃ b c, kitD (tyName z) "list" = some b ∧ kitD (tyName z) "tuple" = some c ∧ (b || c) = true := by
      cases z <;> first | exact ⟨_, _, rfl, rfl, rfl⟩ | (cases hc; done)
    obtain ⟨b, c, kb, kc, kt⟩ := k1
    have hlx := len_good hx g hc
    have hly := len_good hy g hc
    refine seq_eq_rt ?_
    unfold ifS
    simp only [toB, callE, consA, vE, List.getElem?_cons_succ, List.getElem?_cons_zero, Out.bind_ok, hlt, nilA, isi2 ty kb kc, kt, ↓reduceIte]
    refine seq_eq (ρ' := [some x, some y, none]) (μ' := μ) (by simp only [asgS, retS, retNS, dropS, ifS, setS, nilS, op2, op1, toB, ifE, andE, orE, notE, andT, orT, notT, consA, nilA, tupE, lstE, callE, cllE, mth1, mthL, vE, cE, nameG, tupG, consG, nilG, slE, noO, someO, thenF, Out.bind_ok, List.getElem?_cons_succ, List.getElem?_cons_zero, List.set_cons_zero, List.set_cons_succ, List.length_cons, List.length_nil, Option.bind_some, Nat.zero_add, Nat.reduceAdd, Nat.reduceLeDiff, ↓reduceIte, isi1 tx kb, isi1 tx kc, isi1 ty kb, isi1 ty kc, neD_bb, decide_true, Bool.not_true, Bool.false_eq_true]) ?_
    refine seq_eq (ρ' := [some x, some y, none]) (μ' := μ) (by simp only [asgS, retS, retNS, dropS, ifS, setS, nilS, op2, op1, toB, ifE, andE, orE, notE, andT, orT, notT, consA, nilA, tupE, lstE, callE, cllE, mth1, mthL, vE, cE, nameG, tupG, consG, nilG, slE, noO, someO, thenF, Out.bind_ok, List.getElem?_cons_succ, List.getElem?_cons_zero, List.set_cons_zero, List.set_cons_succ, List.length_cons, List.length_nil, Option.bind_some, Nat.zero_add, Nat.reduceAdd, Nat.reduceLeDiff, ↓reduceIte, hlx, hly, neD_ii, decide_true, Bool.not_true, Bool.false_eq_true]) ?_
    have hloop : Does (forS (rng1I (consA (callE lenD (consA (vE 1) nilA)) nilA)) (nameG 2) (ifS (notT (toB (cllE (g_law_same (n + 1)) 2 (consA (op2 ixD (vE 0) (vE 2)) (consA (op2 ixD (vE 1) (vE 2)) nilA))))) (retS (cE (.bl false))) nilS) [some x, some y, none] μ) (fun fl μ' => (∃ o, fl = .nx [some x, some y, o]) ∧ μ' = μ) := by
      refine for_does (rng1_eq (j := ((itemsD z).length : Nat)) (by simp only [asgS, retS, retNS, dropS, ifS, setS, nilS, op2, op1, toB, ifE, andE, orE, notE, andT, orT, notT, consA, nilA, tupE, lstE, callE, cllE, mth1, mthL, vE, cE, nameG, tupG, consG, nilG, slE, noO, someO, thenF, Out.bind_ok, List.getElem?_cons_succ, List.getElem?_cons_zero, List.set_cons_zero, List.set_cons_succ, List.length_cons, List.length_nil, Option.bind_some, Nat.zero_add, Nat.reduceAdd, Nat.reduceLeDiff, ↓reduceIte, hly]) (by omega) (by omega)) (fun _ ρ μ' => (∃ o, ρ = [some x, some y, o]) ∧ μ' = μ) ⟨⟨_, rfl⟩, rfl⟩ ?_ ?_
      · rintro done i rst hi ρ μ' ⟨⟨o, rfl⟩, rfl⟩
        have hi2 : i < (itemsD z).length := by
          have : i ∈ List.range (((itemsD z).length : Nat) : Int).toNat := by rw [hi]; simp
          rw [List.mem_range] at this
          omega
        obtain ⟨d, hd⟩ := get_ex hi2
        have gd := hg d (List.mem_of_getElem? hd)
        have hsame := ih n (by omega) d d d μ' (deref_no (good_own gd)) (deref_no (good_own gd)) gd
        refine ⟨_, rfl, .of (b := .nx [some x, some y, some (.int (0 + (i : Int)))]) (μ := μ') ?_ ⟨⟨_, rfl⟩, rfl⟩⟩
        simp only [asgS, retS, retNS, dropS, ifS, setS, nilS, op2, op1, toB, ifE, andE, orE, notE, andT, orT, notT, consA, nilA, tupE, lstE, callE, cllE, mth1, mthL, vE, cE, nameG, tupG, consG, nilG, slE, noO, someO, thenF, Out.bind_ok, List.getElem?_cons_succ, List.getElem?_cons_zero, List.set_cons_zero, List.set_cons_succ, List.length_cons, List.length_nil, Option.bind_some, Nat.zero_add, Nat.reduceAdd, Nat.reduceLeDiff, ↓reduceIte, ix_good hx g hc hd, ix_good hy g hc hd, hsame, Bool.not_true, Bool.false_eq_true]
      · rintro ρ μ' ⟨⟨o, rfl⟩, rfl⟩
        exact ⟨⟨o, rfl⟩, rfl⟩
    obtain ⟨fl, μ', e, ⟨o, rfl⟩, rfl⟩ := hloop
    exact (seq_eq e (by simp only [asgS, retS, retNS, dropS, ifS, setS, nilS, op2, op1, toB, ifE, andE, orE, notE, andT, orT, notT, consA, nilA, tupE, lstE, callE, cllE, mth1, mthL, vE, cE, nameG, tupG, consG, nilG, slE, noO, someO, thenF, Out.bind_ok, List.getElem?_cons_succ, List.getElem?_cons_zero, List.set_cons_zero, List.set_cons_succ, List.length_cons, List.length_nil, Option.bind_some, Nat.zero_add, Nat.reduceAdd, Nat.reduceLeDiff, ↓reduceIte]))
  · have hb : isC z = false := by simpa using hc
    have hxz : x = z := by
      cases x with
      | own k =>
        obtain ⟨ds, rfl, e⟩ := deref_own hx g
        cases hb
      | _ => exact hx
    have hyz : y = z := by
      cases y with
      | own k =>
        obtain ⟨ds, rfl, e⟩ := deref_own hy g
        cases hb
      | _ => exact hy
    subst hxz
    have hxy := hyz.symm
    clear hyz
    subst hxy
    have k1 : kitD (tyName x) "list" = some false ∧ kitD (tyName x) "tuple" = some false := by
      cases x <;> first | exact ⟨rfl, rfl⟩ | (cases hb; done) | (cases n <;> cases g)
    refine seq_eq (ρ' := [some x, some x, none]) (μ' := μ) ?_ ?_
    · unfold ifS
      simp only [toB, callE, consA, vE, List.getElem?_cons_succ, List.getElem?_cons_zero, Out.bind_ok, hlt, nilA, isi2 ty k1.1 k1.2, Bool.or_false, Bool.false_eq_true, ↓reduceIte, nilS]
    cases x with
    | str s =>
      have k2 : kitD "str" "str" = some true := rfl
      refine seq_eq_rt ?_
      simp only [asgS, retS, retNS, dropS, ifS, setS, nilS, op2, op1, toB, ifE, andE, orE, notE, andT, orT, notT, consA, nilA, tupE, lstE, callE, cllE, mth1, mthL, vE, cE, nameG, tupG, consG, nilG, slE, noO, someO, thenF, Out.bind_ok, List.getElem?_cons_succ, List.getElem?_cons_zero, List.set_cons_zero, List.set_cons_succ, List.length_cons, List.length_nil, Option.bind_some, Nat.zero_add, Nat.reduceAdd, Nat.reduceLeDiff, ↓reduceIte, isi1 (show tyD (.str s) μ = some "str" from rfl) k2, eqD_ss, decide_true]
    | int i =>
      have k2 : kitD "int" "str" = some false := rfl
      have k3 : kitD "int" "int" = some true := rfl
      have k4 : kitD "int" "bool" = some false := rfl
      have t : tyD (.int i) μ = some "int" := rfl
      refine seq_eq (ρ' := [some (.int i), some (.int i), none]) (μ' := μ) (by simp only [asgS, retS, retNS, dropS, ifS, setS, nilS, op2, op1, toB, ifE, andE, orE, notE, andT, orT, notT, consA, nilA, tupE, lstE, callE, cllE, mth1, mthL, vE, cE, nameG, tupG, consG, nilG, slE, noO, someO, thenF, Out.bind_ok, List.getElem?_cons_succ, List.getElem?_cons_zero, List.set_cons_zero, List.set_cons_succ, List.length_cons, List.length_nil, Option.bind_some, Nat.zero_add, Nat.reduceAdd, Nat.reduceLeDiff, ↓reduceIte, isi1 t k2, Bool.false_eq_true]) ?_
      simp only [asgS, retS, retNS, dropS, ifS, setS, nilS, op2, op1, toB, ifE, andE, orE, notE, andT, orT, notT, consA, nilA, tupE, lstE, callE, cllE, mth1, mthL, vE, cE, nameG, tupG, consG, nilG, slE, noO, someO, thenF, Out.bind_ok, List.getElem?_cons_succ, List.getElem?_cons_zero, List.set_cons_zero, List.set_cons_succ, List.length_cons, List.length_nil, Option.bind_some, Nat.zero_add, Nat.reduceAdd, Nat.reduceLeDiff, ↓reduceIte, isi1 t k3, isi1 t k4, eqD_bb, decide_true, eqD_ii]
    | bl i =>
      have k2 : kitD "bool" "str" = some false := rfl
      have k3 : kitD "bool" "int" = some true := rfl
      have k4 : kitD "bool" "bool" = some true := rfl
      have t : tyD (.bl i) μ = some "bool" := rfl
      refine seq_eq (ρ' := [some (.bl i), some (.bl i), none]) (μ' := μ) (by simp only [asgS, retS, retNS, dropS, ifS, setS, nilS, op2, op1, toB, ifE, andE, orE, notE, andT, orT, notT, consA, nilA, tupE, lstE, callE, cllE, mth1, mthL, vE, cE, nameG, tupG, consG, nilG, slE, noO, someO, thenF, Out.bind_ok, List.getElem?_cons_succ, List.getElem?_cons_zero, List.set_cons_zero, List.set_cons_succ, List.length_cons, List.length_nil, Option.bind_some, Nat.zero_add, Nat.reduceAdd, Nat.reduceLeDiff, ↓reduceIte, isi1 t k2, Bool.false_eq_true]) ?_
      simp only [asgS, retS, retNS, dropS, ifS, setS, nilS, op2, op1, toB, ifE, andE, orE, notE, andT, orT, notT, consA, nilA, tupE, lstE, callE, cllE, mth1, mthL, vE, cE, nameG, tupG, consG, nilG, slE, noO, someO, thenF, Out.bind_ok, List.getElem?_cons_succ, List.getElem?_cons_zero, List.set_cons_zero, List.set_cons_succ, List.length_cons, List.length_nil, Option.bind_some, Nat.zero_add, Nat.reduceAdd, Nat.reduceLeDiff, ↓reduceIte, isi1 t k3, isi1 t k4, eqD_bb, decide_true]
    | lst _ => cases hb
    | tup _ => cases hb
    | _ => cases n <;> cases g
theorem same_eq {x y z : D} {μ : Mu} (n : Nat) (hx : deref x μ = z) (hy : deref y μ = z) (g : good 7 z = true) (hn : n = 8) : g_law_same n [x, y] μ = .ok (.bl true) μ := by
  subst hn
  exact same_ok 7 x y z μ hx hy g
end Dm

/-! Dm5: lanes, likes, worths; rows that are often alike. -/
namespace Dm
open Dt Fn
open L2 (atI ixN CMul CDiv CPow)
open PySem (sizeLine)
/-! ### slices -/
theorem cut_all {β : Type} (xs : List β) : cutG xs none none = xs := by
  unfold cutG
  rw [HT.sIx_none, HT.sIx_none, List.drop_zero, Nat.sub_zero, List.take_length]
theorem cut_nn {β : Type} (xs : List β) (i j : Nat) : cutG xs (some (i : Int)) (some (j : Int)) = (xs.drop i).take (j - i) := by
  unfold cutG
  rw [HT.sIx_nat, HT.sIx_nat]
  by_cases h : i ≤ xs.length
  · rw [Nat.min_eq_left h]
    by_cases h2 : j ≤ xs.length
    · rw [Nat.min_eq_left h2]
    · rw [Nat.min_eq_right (by omega)]
      have e : (xs.drop i).length = xs.length - i := List.length_drop
      rw [← e, List.take_length, List.take_of_length_le (by omega)]
  · rw [Nat.min_eq_right (a := i) (by omega), List.drop_length, List.drop_eq_nil_of_le (by omega)]
    simp
theorem cut_from {β : Type} (xs : List β) (i : Nat) : cutG xs (some (i : Int)) none = xs.drop i := by
  unfold cutG
  rw [HT.sIx_nat, HT.sIx_none]
  by_cases h : i ≤ xs.length
  · rw [Nat.min_eq_left h]
    have e : (xs.drop i).length = xs.length - i := List.length_drop
    rw [← e, List.take_length]
  · rw [Nat.min_eq_right (by omega), List.drop_length, List.drop_eq_nil_of_le (by omega)]
    simp
theorem cut_to {β : Type} (xs : List β) (j : Nat) : cutG xs none (some (j : Int)) = xs.take j := by
  have := cut_nn xs 0 j
  rw [List.drop_zero, Nat.sub_zero] at this
  rw [← this]
  unfold cutG
  rw [HT.sIx_none, HT.sIx_nat]
  simp [HT.sIx]
theorem cut_fromI {β : Type} (xs : List β) {i : Int} (h : 0 ≤ i) : cutG xs (some i) none = xs.drop i.toNat := by
  have e : i = ((i.toNat : Nat) : Int) := by omega
  rw [e, cut_from]
  rfl
theorem cut_II {β : Type} (xs : List β) {i j : Int} (h : 0 ≤ i) (h2 : 0 ≤ j) : cutG xs (some i) (some j) = (xs.drop i.toNat).take (j.toNat - i.toNat) := by
  have e : i = ((i.toNat : Nat) : Int) := by omega
  have e2 : j = ((j.toNat : Nat) : Int) := by omega
  rw [e, e2, cut_nn]
  rfl
theorem cut_toI {β : Type} (xs : List β) {j : Int} (h2 : 0 ≤ j) : cutG xs none (some j) = xs.take j.toNat := by
  have e2 : j = ((j.toNat : Nat) : Int) := by omega
  rw [e2, cut_to]
  rfl
theorem sliceD_s {b : Bool} {s : List Nat} {lo hi : Option Int} {μ : Mu} : sliceD b (.str s) lo hi μ = .ok (.str (cutG s lo hi)) μ := rfl
theorem sliceD_l {b : Bool} {s : List D} {lo hi : Option Int} {μ : Mu} : sliceD b (.lst s) lo hi μ = mkL b (cutG s lo hi) μ := rfl
/-! ### a row that is often like another -/
theorem near_ok {L r : List Nat} (h0 : L ≠ []) (h1 : L.length < 1073741824) (hr : r.length ≤ 1000) (st : St) (rest : Mu) : ∃ (s : List Nat) (st' : St), g_law_near [.own 1, .str r, .str L] (R0 st rest) = .ok (.str s) (R0 st' rest) ∧ s.length ≤ 60 ∧ ∀ c ∈ s, c ∈ L ∨ c ∈ r := by
  have key : Does (g_law_near [.own 1, .str r, .str L] (R0 st rest)) fun d μ => ∃ (s : List Nat) (st' : St), d = .str s ∧ μ = R0 st' rest ∧ s.length ≤ 60 ∧ ∀ c ∈ s, c ∈ L ∨ c ∈ r := by
    rw [e_law_near]
    refine fn_R0 ?_
    show Does (b_law_near [some (.own 1), some (.str r), some (.str L), none, none, none, none] (R0 st rest)) _
    unfold b_law_near
    obtain ⟨f, st1, e1, l1, m1⟩ := row_ok h0 h1 (most := 6) (by decide) (by decide) st rest
    obtain ⟨k, st2, e2, k0, k1⟩ := next_ok st1 rest (m := 12) (by decide) (by decide)
    refine seq_nx (ρ' := [some (.own 1), some (.str r), some (.str L), some (.str f), none, none, none]) (μ' := R0 st1 rest) (by simp only [asgS, retS, retNS, dropS, ifS, setS, nilS, op2, op1, toB, ifE, andE, orE, notE, andT, orT, notT, consA, nilA, tupE, lstE, callE, cllE, mth1, mthL, vE, cE, nameG, tupG, consG, nilG, slE, noO, someO, thenF, Out.bind_ok, List.getElem?_cons_succ, List.getElem?_cons_zero, List.set_cons_zero, List.set_cons_succ, List.length_cons, List.length_nil, Option.bind_some, Nat.zero_add, Nat.reduceAdd, Nat.reduceLeDiff, ↓reduceIte, e1]) ?_
    refine seq_nx (ρ' := [some (.own 1), some (.str r), some (.str L), some (.str f), some (.int (2 + k)), none, none]) (μ' := R0 st2 rest) (by simp only [asgS, retS, retNS, dropS, ifS, setS, nilS, op2, op1, toB, ifE, andE, orE, notE, andT, orT, notT, consA, nilA, tupE, lstE, callE, cllE, mth1, mthL, vE, cE, nameG, tupG, consG, nilG, slE, noO, someO, thenF, Out.bind_ok, List.getElem?_cons_succ, List.getElem?_cons_zero, List.set_cons_zero, List.set_cons_succ, List.length_cons, List.length_nil, Option.bind_some, Nat.zero_add, Nat.reduceAdd, Nat.reduceLeDiff, ↓reduceIte, addD_ii, addD_ss, subD_ii, mulD_ii, fdivD_ii, modD_ii, ltD_ii, leD_ii, gtD_ii, geD_ii, eqD_ii, neD_ii, eqD_ss, neD_ss, max2D_ii, min2D_ii, lenD_s, lenD_l, lenD_t, ixD_l, ixD_t, ixD_o, ixD_s, mkL_f, mkL_t, optD_some, Option.map_some, e2]) ?_
    have l6 : f.length ≤ 6 := l1
    refine does_seq (for_does (R := fun fl μ => Does (thenF fl μ _) _) (str_eq (s := r) rfl) (fun done ρ μ => ∃ (g : List Nat) (st3 : St) (o5 o6 : Option D), ρ = [some (.own 1), some (.str r), some (.str L), some (.str g), some (.int (2 + k)), o5, o6] ∧ μ = R0 st3 rest ∧ g.length ≤ 6 + done.length ∧ ∀ c ∈ g, c ∈ L ∨ c ∈ r)
      ⟨f, st2, none, none, rfl, rfl, by simpa using l6, fun c hc => .inl (m1 c hc)⟩ ?_ ?_)
    · rintro done x rst hx ρ μ ⟨g, st3, o5, o6, rfl, rfl, hg, hm⟩
      have hxr : x ∈ r := by rw [hx]; simp
      have hdl : done.length + 1 ≤ r.length := by rw [hx]; simp
      obtain ⟨w, st4, e4, w0, w1⟩ := next_ok st3 rest (m := 2 + k) (by omega) (by omega)
      refine ⟨_, rfl, ?_⟩
      refine seq_nx (ρ' := [some (.own 1), some (.str r), some (.str L), some (.str g), some (.int (2 + k)), some (.str [x]), some (.int w)]) (μ' := R0 st4 rest) (by simp only [asgS, retS, retNS, dropS, ifS, setS, nilS, op2, op1, toB, ifE, andE, orE, notE, andT, orT, notT, consA, nilA, tupE, lstE, callE, cllE, mth1, mthL, vE, cE, nameG, tupG, consG, nilG, slE, noO, someO, thenF, Out.bind_ok, List.getElem?_cons_succ, List.getElem?_cons_zero, List.set_cons_zero, List.set_cons_succ, List.length_cons, List.length_nil, Option.bind_some, Nat.zero_add, Nat.reduceAdd, Nat.reduceLeDiff, ↓reduceIte, e4]) ?_
      have hz1 : g.length + [x].length ≤ sizeLine := by rw [PySem.sizeLine_eq]; show g.length + 1 ≤ _; omega
      refine if_does (b := decide (0 < w)) (μ' := R0 st4 rest) (by simp only [asgS, retS, retNS, dropS, ifS, setS, nilS, op2, op1, toB, ifE, andE, orE, notE, andT, orT, notT, consA, nilA, tupE, lstE, callE, cllE, mth1, mthL, vE, cE, nameG, tupG, consG, nilG, slE, noO, someO, thenF, Out.bind_ok, List.getElem?_cons_succ, List.getElem?_cons_zero, List.set_cons_zero, List.set_cons_succ, List.length_cons, List.length_nil, Option.bind_some, Nat.zero_add, Nat.reduceAdd, Nat.reduceLeDiff, ↓reduceIte, addD_ii, addD_ss, subD_ii, mulD_ii, fdivD_ii, modD_ii, ltD_ii, leD_ii, gtD_ii, geD_ii, eqD_ii, neD_ii, eqD_ss, neD_ss, max2D_ii, min2D_ii, lenD_s, lenD_l, lenD_t, ixD_l, ixD_t, ixD_o, ixD_s, mkL_f, mkL_t, optD_some, Option.map_some]) (fun _ => ?_) (fun _ => ?_)
      · refine .of (b := .nx [some (.own 1), some (.str r), some (.str L), some (.str (g ++ [x])), some (.int (2 + k)), some (.str [x]), some (.int w)]) (μ := R0 st4 rest) ?_ ⟨_, st4, _, _, rfl, rfl, ?_, ?_⟩
        · simp only [asgS, op2, vE, List.getElem?_cons_succ, List.getElem?_cons_zero, Out.bind_ok, addD_ss, if_pos hz1, nameG, List.set_cons_succ, List.set_cons_zero]
        · rw [List.length_append, List.length_append]; show g.length + 1 ≤ 6 + (done.length + 1); omega
        · intro c hc
          rcases List.mem_append.mp hc with z | z
          · exact hm c z
          · rw [List.mem_singleton.mp z]; exact .inr hxr
      · obtain ⟨u, st5, e5, u0, u1⟩ := next_ok st4 rest (m := 3) (by decide) (by decide)
        refine if_does (b := decide (0 < u)) (μ' := R0 st5 rest) (by simp only [asgS, retS, retNS, dropS, ifS, setS, nilS, op2, op1, toB, ifE, andE, orE, notE, andT, orT, notT, consA, nilA, tupE, lstE, callE, cllE, mth1, mthL, vE, cE, nameG, tupG, consG, nilG, slE, noO, someO, thenF, Out.bind_ok, List.getElem?_cons_succ, List.getElem?_cons_zero, List.set_cons_zero, List.set_cons_succ, List.length_cons, List.length_nil, Option.bind_some, Nat.zero_add, Nat.reduceAdd, Nat.reduceLeDiff, ↓reduceIte, addD_ii, addD_ss, subD_ii, mulD_ii, fdivD_ii, modD_ii, ltD_ii, leD_ii, gtD_ii, geD_ii, eqD_ii, neD_ii, eqD_ss, neD_ss, max2D_ii, min2D_ii, lenD_s, lenD_l, lenD_t, ixD_l, ixD_t, ixD_o, ixD_s, mkL_f, mkL_t, optD_some, Option.map_some, e5]) (fun _ => ?_) (fun _ => ?_)
        · obtain ⟨c, v, st6, e6, e7, e8⟩ := draw_ok h0 h1 st5 rest
          have hz2 : g.length + 1 ≤ sizeLine := hz1
          refine .of (b := .nx [some (.own 1), some (.str r), some (.str L), some (.str (g ++ [c])), some (.int (2 + k)), some (.str [x]), some (.int w)]) (μ := R0 st6 rest) ?_ ⟨_, st6, _, _, rfl, rfl, ?_, ?_⟩
          · have hlen : lenD [.str L] (R0 st5 rest) = .ok (.int (L.length : Nat)) (R0 st5 rest) := rfl
            have hix : ixD (.str L) (.int v) (R0 st6 rest) = .ok (.str [c]) (R0 st6 rest) := by rw [ixD_s, e7]; rfl
            simp only [asgS, op2, vE, cllE, consA, nilA, callE, List.getElem?_cons_succ, List.getElem?_cons_zero, Out.bind_ok, hlen, e6, hix, addD_ss, if_pos hz2, nameG, List.set_cons_succ, List.set_cons_zero, List.length_cons, List.length_nil, Nat.zero_add, Nat.reduceAdd, ↓reduceIte]
          · rw [List.length_append, List.length_append]; show g.length + 1 ≤ 6 + (done.length + 1); omega
          · intro c' hc
            rcases List.mem_append.mp hc with z | z
            · exact hm c' z
            · rw [List.mem_singleton.mp z]; exact .inl e8
        · exact .ok ⟨g, st5, _, _, rfl, rfl, by rw [List.length_append]; omega, hm⟩
    · rintro ρ μ ⟨g, st3, o5, o6, rfl, rfl, hg, hm⟩
      obtain ⟨q, st4, e4, l4, m4⟩ := row_ok h0 h1 (most := 6) (by decide) (by decide) st3 rest
      have l4' : q.length ≤ 6 := l4
      have hz : g.length + q.length ≤ sizeLine := by rw [PySem.sizeLine_eq]; omega
      have hcut : cutG (g ++ q) none (some 60) = (g ++ q).take 60 := cut_to (g ++ q) 60
      refine .of (b := .rt (.str ((g ++ q).take 60))) (μ := R0 st4 rest) ?_ ⟨_, st4, [], rfl, (List.append_nil _).symm, rfl, _, st4, rfl, rfl, List.length_take_le _ _, fun c hc => ?_⟩
      · simp only [thenF, retS, slE, noO, someO, op2, vE, cE, cllE, consA, nilA, List.getElem?_cons_succ, List.getElem?_cons_zero, Out.bind_ok, e4, addD_ss, if_pos hz, List.length_cons, List.length_nil, Nat.zero_add, Nat.reduceAdd, ↓reduceIte, sliceD_s, hcut]
      · rcases List.mem_append.mp (List.mem_of_mem_take hc) with z | z
        · exact hm c z
        · exact .inl (m4 c z)
  obtain ⟨d, μ, e, r, st', rfl, rfl, h⟩ := key
  exact ⟨r, st', e, h⟩
theorem plains_map {A : Type} {f : A → D} {n : Nat} (h : ∀ x, plain n (f x) = true) : ∀ {xs : List A}, plains n (xs.map f) = true
  | [] => rfl
  | x :: xs => by
    rw [List.map_cons]
    unfold plains
    rw [h x, plains_map h]
    rfl
theorem neD_nil {ds : List D} {μ : Mu} (h : plains 19 ds = true) : neD (.lst ds) (.lst []) μ = .ok (.bl (!ds.isEmpty)) μ := by
  unfold neD
  rw [show deref (.lst ds) μ = .lst ds from rfl, show deref (.lst []) μ = .lst [] from rfl]
  have h2 : plain 20 (.lst ds) = true := h
  rw [h2]
  simp [plain, plains, eqvD, eqvDs_nil]
theorem eqD_nil {ds : List D} {μ : Mu} (h : plains 19 ds = true) : eqD (.lst ds) (.lst []) μ = .ok (.bl ds.isEmpty) μ := by
  unfold eqD
  rw [show deref (.lst ds) μ = .lst ds from rfl, show deref (.lst []) μ = .lst [] from rfl]
  have h2 : plain 20 (.lst ds) = true := h
  rw [h2]
  simp [plain, plains, eqvD, eqvDs_nil]
/-! ### lanes -/
def laneLo (s : Int) : Int := max 0 (0 - s)
def laneHi (a b : List Nat) (s : Int) : Int := min (a.length : Nat) ((b.length : Nat) - s)
def laneN (a b : List Nat) (s : Int) : Nat := (laneHi a b s - laneLo s).toNat
/-- 61 is a like place, 47 an unlike one -/
def likesF (a b : List Nat) (s : Int) : List Nat := (List.range (laneN a b s)).map fun (k : Nat) => if a[(laneLo s + (k : Int)).toNat]? = b[(laneLo s + (k : Int) + s).toNat]? then 61 else 47
theorem likesF_len (a b : List Nat) (s : Int) : (likesF a b s).length = laneN a b s := by unfold likesF; rw [List.length_map, List.length_range]
def LikeS (l : List Nat) : Prop := ∀ c ∈ l, c = 61 ∨ c = 47
theorem likesF_ok (a b : List Nat) (s : Int) : LikeS (likesF a b s) := by
  intro c hc
  unfold likesF at hc
  obtain ⟨k, _, rfl⟩ := List.mem_map.mp hc
  split
  · exact .inl rfl
  · exact .inr rfl
theorem bounds_ok (a b : List Nat) (s : Int) (μ : Mu) : g_lane_bounds [.str a, .str b, .int s] μ = .ok (.tup [.int (laneLo s), .int (laneHi a b s)]) μ := by
  rw [e_lane_bounds]
  rw [fn_eq (d := .tup [.int (laneLo s), .int (laneHi a b s)]) (μ' := μ), trim_id (by rfl)]
  show b_lane_bounds [some (.str a), some (.str b), some (.int s)] μ = _
  unfold b_lane_bounds
  simp only [asgS, retS, retNS, dropS, ifS, setS, nilS, op2, op1, toB, ifE, andE, orE, notE, andT, orT, notT, consA, nilA, tupE, lstE, callE, cllE, mth1, mthL, vE, cE, nameG, tupG, consG, nilG, slE, noO, someO, thenF, Out.bind_ok, List.getElem?_cons_succ, List.getElem?_cons_zero, List.set_cons_zero, List.set_cons_succ, List.length_cons, List.length_nil, Option.bind_some, Nat.zero_add, Nat.reduceAdd, Nat.reduceLeDiff, ↓reduceIte, addD_ii, addD_ss, subD_ii, mulD_ii, fdivD_ii, modD_ii, ltD_ii, leD_ii, gtD_ii, geD_ii, eqD_ii, neD_ii, eqD_ss, neD_ss, max2D_ii, min2D_ii, lenD_s, lenD_l, lenD_t, ixD_l, ixD_t, ixD_o, ixD_s, mkL_f, mkL_t, optD_some, Option.map_some]
  rfl
/-- a place of a lane -/
theorem lane_place {a b : List Nat} {s : Int} {k : Nat} (h : k < laneN a b s) : ∃ x y, a[(laneLo s + (k : Int)).toNat]? = some x ∧ b[(laneLo s + (k : Int) + s).toNat]? = some y ∧ 0 ≤ laneLo s + (k : Int) ∧ 0 ≤ laneLo s + (k : Int) + s ∧ laneLo s + (k : Int) < a.length := by
  unfold laneN laneHi laneLo at h
  unfold laneLo
  obtain ⟨x, hx⟩ := get_ex (show (max 0 (0 - s) + (k : Int)).toNat < a.length by omega)
  obtain ⟨y, hy⟩ := get_ex (show (max 0 (0 - s) + (k : Int) + s).toNat < b.length by omega)
  exact ⟨x, y, hx, hy, by omega, by omega, by omega⟩
theorem likes_ok {a b : List Nat} {s : Int} (ha : a.length ≤ 1000) (hb : b.length ≤ 1000) (s0 : -1000 ≤ s) (s1 : s ≤ 1000) (μ : Mu) : g_likes_of [.str a, .str b, .int s] μ = .ok (.str (likesF a b s)) μ := by
  rw [e_likes_of]
  rw [fn_eq (d := .str (likesF a b s)) (μ' := μ), trim_id (by rfl)]
  show b_likes_of [some (.str a), some (.str b), some (.int s), none, none, none] μ = _
  unfold b_likes_of
  refine seq_eq (ρ' := [some (.str a), some (.str b), some (.int s), some (.int (laneLo s)), some (.int (laneHi a b s)), none]) (μ' := μ) (by simp only [asgS, retS, retNS, dropS, ifS, setS, nilS, op2, op1, toB, ifE, andE, orE, notE, andT, orT, notT, consA, nilA, tupE, lstE, callE, cllE, mth1, mthL, vE, cE, nameG, tupG, consG, nilG, slE, noO, someO, thenF, Out.bind_ok, List.getElem?_cons_succ, List.getElem?_cons_zero, List.set_cons_zero, List.set_cons_succ, List.length_cons, List.length_nil, Option.bind_some, Nat.zero_add, Nat.reduceAdd, Nat.reduceLeDiff, ↓reduceIte, bounds_ok]) ?_
  have hN : laneN a b s ≤ 1000 := by unfold laneN laneHi laneLo; omega
  unfold retS
  have hLo : 0 ≤ laneLo s ∧ laneLo s ≤ 1000 := by unfold laneLo; omega
  have hHi : -1000 ≤ laneHi a b s ∧ laneHi a b s ≤ 1000 := by unfold laneHi; omega
  rw [join_chars_eq (cs := likesF a b s) (μ' := μ) ?_ (by rw [likesF_len]; omega)]
  · rfl
  · have hi := rng2_eq (fa := consA (vE 3) (consA (vE 4) nilA)) (ρ := [some (.str a), some (.str b), some (.int s), some (.int (laneLo s)), some (.int (laneHi a b s)), none]) (μ := μ) (μ1 := μ) (i := laneLo s) (j := laneHi a b s) rfl (by omega) (by omega) (by omega) (by omega)
    rw [lc_map false hi (by rw [List.length_range, PySem.sizeLine_eq]; exact Nat.le_trans hN (by decide)) (fun (k : Nat) => chD (if a[(laneLo s + (k : Int)).toNat]? = b[(laneLo s + (k : Int) + s).toNat]? then 61 else 47)) ?_]
    · unfold likesF laneN
      rw [List.map_map]
      rfl
    · intro k hk
      rw [List.mem_range] at hk
      obtain ⟨x, y, hx, hy, p0, p1, p2⟩ := lane_place hk
      refine ⟨_, rfl, ?_⟩
      have ex : atI a (laneLo s + (k : Int)) = some x := atI_nat p0 hx
      have ey : atI b (laneLo s + (k : Int) + s) = some y := atI_nat p1 hy
      by_cases hxy : x = y
      · simp only [asgS, retS, retNS, dropS, ifS, setS, nilS, op2, op1, toB, ifE, andE, orE, notE, andT, orT, notT, consA, nilA, tupE, lstE, callE, cllE, mth1, mthL, vE, cE, nameG, tupG, consG, nilG, slE, noO, someO, thenF, Out.bind_ok, List.getElem?_cons_succ, List.getElem?_cons_zero, List.set_cons_zero, List.set_cons_succ, List.length_cons, List.length_nil, Option.bind_some, Nat.zero_add, Nat.reduceAdd, Nat.reduceLeDiff, ↓reduceIte, addD_ii, addD_ss, subD_ii, mulD_ii, fdivD_ii, modD_ii, ltD_ii, leD_ii, gtD_ii, geD_ii, eqD_ii, neD_ii, eqD_ss, neD_ss, max2D_ii, min2D_ii, lenD_s, lenD_l, lenD_t, ixD_l, ixD_t, ixD_o, ixD_s, mkL_f, mkL_t, optD_some, Option.map_some, wipeE, ex, ey, hx, hy, hxy, decide_true]
        rfl
      · have n1 : ¬ ([x] = [y]) := fun z => hxy (List.cons.inj z).1
        have n2 : ¬ (some x = some y) := fun z => hxy (Option.some.inj z)
        simp only [asgS, retS, retNS, dropS, ifS, setS, nilS, op2, op1, toB, ifE, andE, orE, notE, andT, orT, notT, consA, nilA, tupE, lstE, callE, cllE, mth1, mthL, vE, cE, nameG, tupG, consG, nilG, slE, noO, someO, thenF, Out.bind_ok, List.getElem?_cons_succ, List.getElem?_cons_zero, List.set_cons_zero, List.set_cons_succ, List.length_cons, List.length_nil, Option.bind_some, Nat.zero_add, Nat.reduceAdd, Nat.reduceLeDiff, ↓reduceIte, addD_ii, addD_ss, subD_ii, mulD_ii, fdivD_ii, modD_ii, ltD_ii, leD_ii, gtD_ii, geD_ii, eqD_ii, neD_ii, eqD_ss, neD_ss, max2D_ii, min2D_ii, lenD_s, lenD_l, lenD_t, ixD_l, ixD_t, ixD_o, ixD_s, mkL_f, mkL_t, optD_some, Option.map_some, wipeE, ex, ey, hx, hy, decide_eq_false n1, Bool.false_eq_true, if_neg n2]
        rfl
/-! ### worths -/
def wsum (g l : Int) : List Nat → Int
  | [] => 0
  | c :: r => (if c = 61 then g else -l) + wsum g l r
theorem wsum_append (g l : Int) : ∀ (a b : List Nat), wsum g l (a ++ b) = wsum g l a + wsum g l b
  | [], b => by simp [wsum]
  | c :: r, b => by
    show (if c = 61 then g else -l) + wsum g l (r ++ b) = (if c = 61 then g else -l) + wsum g l r + wsum g l b
    rw [wsum_append g l r b]
    omega
theorem wsum_count (g l : Int) : ∀ {s : List Nat}, LikeS s → wsum g l s = g * (s.count 61 : Nat) - l * (s.count 47 : Nat)
  | [], h => by simp [wsum]
  | c :: r, h => by
    unfold wsum
    rw [wsum_count g l (s := r) (fun c hc => h c (List.mem_cons_of_mem _ hc))]
    rcases h c List.mem_cons_self with rfl | rfl
    · rw [if_pos rfl, List.count_cons_self, List.count_cons_of_ne (by decide), Int.natCast_succ, Int.mul_add, Int.mul_one]
      omega
    · rw [if_neg (by decide), List.count_cons_self, List.count_cons_of_ne (by decide), Int.natCast_succ, Int.mul_add, Int.mul_one]
      omega
theorem countD_ok {s : List Nat} {c : Nat} {μ : Mu} : countD (.str s) (.str [c]) μ = .ok (.int (s.count c : Nat)) μ := rfl
theorem cmul_small {a : Int} (b : Int) (h : -(2 ^ 64) < a) (h2 : a < 2 ^ 64) : CMul a b := .inl ⟨h, h2⟩
theorem worth_ok {s : List Nat} {g l : Int} (hg : -(2 ^ 64) < g ∧ g < 2 ^ 64) (hl : -(2 ^ 64) < l ∧ l < 2 ^ 64) (hs : LikeS s) (μ : Mu) : g_worth_of [.str s, .tup [.int g, .int l]] μ = .ok (.int (wsum g l s)) μ := by
  rw [e_worth_of]
  rw [fn_eq (d := .int (wsum g l s)) (μ' := μ), trim_id (by rfl)]
  show b_worth_of [some (.str s), some (.tup [.int g, .int l])] μ = _
  unfold b_worth_of
  have c1 : CMul g (s.count 61 : Nat) := cmul_small _ hg.1 hg.2
  have c2 : CMul l (s.count 47 : Nat) := cmul_small _ hl.1 hl.2
  have a0 : atI [D.int g, D.int l] 0 = some (.int g) := rfl
  have a1 : atI [D.int g, D.int l] 1 = some (.int l) := rfl
  simp only [asgS, retS, retNS, dropS, ifS, setS, nilS, op2, op1, toB, ifE, andE, orE, notE, andT, orT, notT, consA, nilA, tupE, lstE, callE, cllE, mth1, mthL, vE, cE, nameG, tupG, consG, nilG, slE, noO, someO, thenF, Out.bind_ok, List.getElem?_cons_succ, List.getElem?_cons_zero, List.set_cons_zero, List.set_cons_succ, List.length_cons, List.length_nil, Option.bind_some, Nat.zero_add, Nat.reduceAdd, Nat.reduceLeDiff, ↓reduceIte, addD_ii, addD_ss, subD_ii, mulD_ii, fdivD_ii, modD_ii, ltD_ii, leD_ii, gtD_ii, geD_ii, eqD_ii, neD_ii, eqD_ss, neD_ss, max2D_ii, min2D_ii, lenD_s, lenD_l, lenD_t, ixD_l, ixD_t, ixD_o, ixD_s, mkL_f, mkL_t, optD_some, Option.map_some, a0, a1, countD_ok, if_pos c1, if_pos c2]
  rw [wsum_count g l hs]
theorem law_worth_ok (s : List Nat) (g l : Int) (μ : Mu) : g_law_worth [.str s, .tup [.int g, .int l]] μ = .ok (.int (wsum g l s)) μ := by
  have key : Does (b_law_worth [some (.str s), some (.tup [.int g, .int l]), none, none] μ) fun fl μ' => fl = .rt (.int (wsum g l s)) ∧ μ' = μ := by
    unfold b_law_worth
    have a0 : atI [D.int g, D.int l] 0 = some (.int g) := rfl
    have a1 : atI [D.int g, D.int l] 1 = some (.int l) := rfl
    refine seq_nx (ρ' := [some (.str s), some (.tup [.int g, .int l]), some (.int 0), none]) (μ' := μ) rfl ?_
    refine does_seq (for_does (R := fun fl μ => Does (thenF fl μ _) _) (str_eq (s := s) rfl) (fun done ρ μ' => (∃ o, ρ = [some (.str s), some (.tup [.int g, .int l]), some (.int (wsum g l done)), o]) ∧ μ' = μ) ⟨⟨_, rfl⟩, rfl⟩ ?_ ?_)
    · rintro done x rst hx ρ μ' ⟨⟨o, rfl⟩, rfl⟩
      refine ⟨_, rfl, ?_⟩
      by_cases h : x = 61
      · subst h
        refine .of (b := .nx [some (.str s), some (.tup [.int g, .int l]), some (.int (wsum g l done + g)), some (.str [61])]) (μ := μ') (by simp only [asgS, retS, retNS, dropS, ifS, setS, nilS, op2, op1, toB, ifE, andE, orE, notE, andT, orT, notT, consA, nilA, tupE, lstE, callE, cllE, mth1, mthL, vE, cE, nameG, tupG, consG, nilG, slE, noO, someO, thenF, Out.bind_ok, List.getElem?_cons_succ, List.getElem?_cons_zero, List.set_cons_zero, List.set_cons_succ, List.length_cons, List.length_nil, Option.bind_some, Nat.zero_add, Nat.reduceAdd, Nat.reduceLeDiff, ↓reduceIte, addD_ii, addD_ss, subD_ii, mulD_ii, fdivD_ii, modD_ii, ltD_ii, leD_ii, gtD_ii, geD_ii, eqD_ii, neD_ii, eqD_ss, neD_ss, max2D_ii, min2D_ii, lenD_s, lenD_l, lenD_t, ixD_l, ixD_t, ixD_o, ixD_s, mkL_f, mkL_t, optD_some, Option.map_some, a0, a1, decide_true]) ⟨⟨some (.str [61]), ?_⟩, rfl⟩
        rw [wsum_append]
        simp [wsum]
      · have n1 : ¬ ([x] = [61]) := fun z => h (List.cons.inj z).1
        refine .of (b := .nx [some (.str s), some (.tup [.int g, .int l]), some (.int (wsum g l done - l)), some (.str [x])]) (μ := μ') (by simp only [asgS, retS, retNS, dropS, ifS, setS, nilS, op2, op1, toB, ifE, andE, orE, notE, andT, orT, notT, consA, nilA, tupE, lstE, callE, cllE, mth1, mthL, vE, cE, nameG, tupG, consG, nilG, slE, noO, someO, thenF, Out.bind_ok, List.getElem?_cons_succ, List.getElem?_cons_zero, List.set_cons_zero, List.set_cons_succ, List.length_cons, List.length_nil, Option.bind_some, Nat.zero_add, Nat.reduceAdd, Nat.reduceLeDiff, ↓reduceIte, addD_ii, addD_ss, subD_ii, mulD_ii, fdivD_ii, modD_ii, ltD_ii, leD_ii, gtD_ii, geD_ii, eqD_ii, neD_ii, eqD_ss, neD_ss, max2D_ii, min2D_ii, lenD_s, lenD_l, lenD_t, ixD_l, ixD_t, ixD_o, ixD_s, mkL_f, mkL_t, optD_some, Option.map_some, a0, a1, decide_eq_false n1, Bool.false_eq_true]) ⟨⟨some (.str [x]), ?_⟩, rfl⟩
        rw [wsum_append]
        simp [wsum, h]
        omega
    · rintro ρ μ' ⟨⟨o, rfl⟩, rfl⟩
      exact .of (b := .rt (.int (wsum g l s))) (μ := μ') (by simp only [asgS, retS, retNS, dropS, ifS, setS, nilS, op2, op1, toB, ifE, andE, orE, notE, andT, orT, notT, consA, nilA, tupE, lstE, callE, cllE, mth1, mthL, vE, cE, nameG, tupG, consG, nilG, slE, noO, someO, thenF, Out.bind_ok, List.getElem?_cons_succ, List.getElem?_cons_zero, List.set_cons_zero, List.set_cons_succ, List.length_cons, List.length_nil, Option.bind_some, Nat.zero_add, Nat.reduceAdd, Nat.reduceLeDiff, ↓reduceIte]) ⟨rfl, rfl⟩
  obtain ⟨fl, μ', e, rfl, rfl⟩ := key
  rw [e_law_worth]
  rw [fn_eq e, trim_id (by rfl)]
/-! ### the law's own lane -/
theorem filter_lane (n : Nat) (m : Nat) (s : Int) : ((List.range n).filter fun (p : Nat) => decide (0 ≤ (0 + (p : Int)) + s) && decide ((0 + (p : Int)) + s < (m : Int))).map (fun (p : Nat) => (0 + (p : Int))) = (List.range (min (n : Int) ((m : Int) - s) - max 0 (0 - s)).toNat).map fun (k : Nat) => max 0 (0 - s) + (k : Int) := by
  induction n with
  | zero =>
    have : (min ((0 : Nat) : Int) ((m : Int) - s) - max 0 (0 - s)).toNat = 0 := by omega
    rw [this]
    rfl
  | succ n ih =>
    rw [List.range_succ, List.filter_append, List.map_append, ih]
    by_cases h : 0 ≤ (0 + (n : Int)) + s ∧ (0 + (n : Int)) + s < (m : Int)
    · have e : (min ((n + 1 : Nat) : Int) ((m : Int) - s) - max 0 (0 - s)).toNat = (min (n : Int) ((m : Int) - s) - max 0 (0 - s)).toNat + 1 := by omega
      rw [e, List.range_succ, List.map_append, List.filter_cons_of_pos (by rw [decide_eq_true h.1, decide_eq_true h.2]; rfl)]
      congr 1
      show [(0 : Int) + (n : Int)] = [max 0 (0 - s) + (((min (n : Int) ((m : Int) - s) - max 0 (0 - s)).toNat : Nat) : Int)]
      congr 1
      omega
    · have hp : (decide (0 ≤ (0 + (n : Int)) + s) && decide ((0 + (n : Int)) + s < (m : Int))) = false := by
        rw [Bool.and_eq_false_iff]
        by_cases h1 : 0 ≤ (0 + (n : Int)) + s
        · exact .inr (decide_eq_false (fun z => h ⟨h1, z⟩))
        · exact .inl (decide_eq_false h1)
      rw [List.filter_cons_of_neg (by rw [hp]; decide), List.filter_nil, List.map_nil, List.append_nil]
      congr 2
      omega
def laneAhead (a b : List Nat) (s : Int) : Int := if laneN a b s = 0 then 0 else laneLo s
theorem law_lane_ok {a b : List Nat} {s : Int} (ha : a.length ≤ 1000) (hb : b.length ≤ 1000) (s0 : -1000 ≤ s) (s1 : s ≤ 1000) (μ : Mu) : g_law_lane [.str a, .str b, .int s] μ = .ok (.tup [.str (likesF a b s), .int (laneAhead a b s)]) μ := by
  rw [e_law_lane]
  rw [fn_eq (d := .tup [.str (likesF a b s), .int (laneAhead a b s)]) (μ' := μ), trim_id (by rfl)]
  show b_law_lane [some (.str a), some (.str b), some (.int s), none, none, none] μ = _
  unfold b_law_lane
  have hN : laneN a b s ≤ 1000 := by unfold laneN laneHi laneLo; omega
  have hi := rng1_eq (fa := consA (callE lenD (consA (vE 0) nilA)) nilA) (ρ := [some (.str a), some (.str b), some (.int s), none, none, none]) (μ := μ) (μ1 := μ) (j := (a.length : Nat)) rfl (by omega) (by omega)
  have hpl : (List.map (fun (k : Nat) => D.int (0 + (k : Int))) ((List.range ((a.length : Nat) : Int).toNat).filter fun (p : Nat) => decide (0 ≤ (0 + (p : Int)) + s) && decide ((0 + (p : Int)) + s < ((b.length : Nat) : Int)))) = (List.range (laneN a b s)).map fun (k : Nat) => D.int (laneLo s + (k : Int)) := by
    have h := congrArg (List.map D.int) (filter_lane a.length b.length s)
    rw [List.map_map, List.map_map] at h
    exact h
  have hcomp := lc_eq (vs := [5]) (gt := nameG 5) (ft := toB (chE leD ltD (cE (.int 0)) (op2 (addD false) (vE 5) (vE 2)) (callE lenD (consA (vE 1) nilA)))) (fe := vE 5) false hi (by rw [List.length_range, PySem.sizeLine_eq]; omega) (fun (p : Nat) => decide (0 ≤ (0 + (p : Int)) + s) && decide ((0 + (p : Int)) + s < ((b.length : Nat) : Int))) (fun (k : Nat) => D.int (0 + (k : Int))) (by
    intro k hk
    refine ⟨_, rfl, ?_, fun _ => rfl⟩
    by_cases h : 0 ≤ (0 + (k : Int)) + s
    · simp only [asgS, retS, retNS, dropS, ifS, setS, nilS, op2, op1, toB, ifE, andE, orE, notE, andT, orT, notT, consA, nilA, tupE, lstE, callE, cllE, mth1, mthL, vE, cE, nameG, tupG, consG, nilG, slE, noO, someO, thenF, Out.bind_ok, List.getElem?_cons_succ, List.getElem?_cons_zero, List.set_cons_zero, List.set_cons_succ, List.length_cons, List.length_nil, Option.bind_some, Nat.zero_add, Nat.reduceAdd, Nat.reduceLeDiff, ↓reduceIte, addD_ii, addD_ss, subD_ii, mulD_ii, fdivD_ii, modD_ii, ltD_ii, leD_ii, gtD_ii, geD_ii, eqD_ii, neD_ii, eqD_ss, neD_ss, max2D_ii, min2D_ii, lenD_s, lenD_l, lenD_t, ixD_l, ixD_t, ixD_o, ixD_s, mkL_f, mkL_t, optD_some, Option.map_some, chE, wipeE, decide_eq_true h, Bool.true_and]
    · simp only [asgS, retS, retNS, dropS, ifS, setS, nilS, op2, op1, toB, ifE, andE, orE, notE, andT, orT, notT, consA, nilA, tupE, lstE, callE, cllE, mth1, mthL, vE, cE, nameG, tupG, consG, nilG, slE, noO, someO, thenF, Out.bind_ok, List.getElem?_cons_succ, List.getElem?_cons_zero, List.set_cons_zero, List.set_cons_succ, List.length_cons, List.length_nil, Option.bind_some, Nat.zero_add, Nat.reduceAdd, Nat.reduceLeDiff, ↓reduceIte, addD_ii, addD_ss, subD_ii, mulD_ii, fdivD_ii, modD_ii, ltD_ii, leD_ii, gtD_ii, geD_ii, eqD_ii, neD_ii, eqD_ss, neD_ss, max2D_ii, min2D_ii, lenD_s, lenD_l, lenD_t, ixD_l, ixD_t, ixD_o, ixD_s, mkL_f, mkL_t, optD_some, Option.map_some, chE, wipeE, decide_eq_false h, Bool.false_and])
  rw [hpl] at hcomp
  refine seq_eq (ρ' := [some (.str a), some (.str b), some (.int s), some (.lst ((List.range (laneN a b s)).map fun (k : Nat) => D.int (laneLo s + (k : Int)))), none, none]) (μ' := μ) (by
    unfold asgS
    rw [hcomp]
    rfl) ?_
  refine seq_eq (ρ' := [some (.str a), some (.str b), some (.int s), some (.lst ((List.range (laneN a b s)).map fun (k : Nat) => D.int (laneLo s + (k : Int)))), some (.str (likesF a b s)), none]) (μ' := μ) ?_ ?_
  · unfold asgS
    rw [join_chars_eq (cs := likesF a b s) (μ' := μ) ?_ (by rw [likesF_len]; omega)]
    · rfl
    · have hi2 := list_eq (fe := vE 3) (ρ := [some (.str a), some (.str b), some (.int s), some (.lst ((List.range (laneN a b s)).map fun (k : Nat) => D.int (laneLo s + (k : Int)))), none, none]) (μ := μ) (μ1 := μ) (xs := List.range (laneN a b s)) (enc := fun (k : Nat) => D.int (laneLo s + (k : Int))) rfl
      rw [lc_map false hi2 (by rw [List.length_range, PySem.sizeLine_eq]; omega) (fun (k : Nat) => chD (if a[(laneLo s + (k : Int)).toNat]? = b[(laneLo s + (k : Int) + s).toNat]? then 61 else 47)) ?_]
      · unfold likesF
        rw [List.map_map]
        rfl
      · intro k hk
        rw [List.mem_range] at hk
        obtain ⟨x, y, hx, hy, p0, p1, p2⟩ := lane_place hk
        refine ⟨_, rfl, ?_⟩
        have ex : atI a (laneLo s + (k : Int)) = some x := atI_nat p0 hx
        have ey : atI b (laneLo s + (k : Int) + s) = some y := atI_nat p1 hy
        have i1 : intD [.bl true] μ = .ok (.int 1) μ := rfl
        have i0 : intD [.bl false] μ = .ok (.int 0) μ := rfl
        have j1 : atI [47, 61] 1 = some 61 := rfl
        have j0 : atI [47, 61] 0 = some 47 := rfl
        by_cases hxy : x = y
        · simp only [asgS, retS, retNS, dropS, ifS, setS, nilS, op2, op1, toB, ifE, andE, orE, notE, andT, orT, notT, consA, nilA, tupE, lstE, callE, cllE, mth1, mthL, vE, cE, nameG, tupG, consG, nilG, slE, noO, someO, thenF, Out.bind_ok, List.getElem?_cons_succ, List.getElem?_cons_zero, List.set_cons_zero, List.set_cons_succ, List.length_cons, List.length_nil, Option.bind_some, Nat.zero_add, Nat.reduceAdd, Nat.reduceLeDiff, ↓reduceIte, addD_ii, addD_ss, subD_ii, mulD_ii, fdivD_ii, modD_ii, ltD_ii, leD_ii, gtD_ii, geD_ii, eqD_ii, neD_ii, eqD_ss, neD_ss, max2D_ii, min2D_ii, lenD_s, lenD_l, lenD_t, ixD_l, ixD_t, ixD_o, ixD_s, mkL_f, mkL_t, optD_some, Option.map_some, wipeE, ex, ey, hx, hy, hxy, decide_true, i1, j1]
          rfl
        · have n1 : ¬ ([x] = [y]) := fun z => hxy (List.cons.inj z).1
          have n2 : ¬ (some x = some y) := fun z => hxy (Option.some.inj z)
          simp only [asgS, retS, retNS, dropS, ifS, setS, nilS, op2, op1, toB, ifE, andE, orE, notE, andT, orT, notT, consA, nilA, tupE, lstE, callE, cllE, mth1, mthL, vE, cE, nameG, tupG, consG, nilG, slE, noO, someO, thenF, Out.bind_ok, List.getElem?_cons_succ, List.getElem?_cons_zero, List.set_cons_zero, List.set_cons_succ, List.length_cons, List.length_nil, Option.bind_some, Nat.zero_add, Nat.reduceAdd, Nat.reduceLeDiff, ↓reduceIte, addD_ii, addD_ss, subD_ii, mulD_ii, fdivD_ii, modD_ii, ltD_ii, leD_ii, gtD_ii, geD_ii, eqD_ii, neD_ii, eqD_ss, neD_ss, max2D_ii, min2D_ii, lenD_s, lenD_l, lenD_t, ixD_l, ixD_t, ixD_o, ixD_s, mkL_f, mkL_t, optD_some, Option.map_some, wipeE, ex, ey, hx, hy, decide_eq_false n1, i0, j0, if_neg n2]
          rfl
  · have hne : neD (.lst ((List.range (laneN a b s)).map fun (k : Nat) => D.int (laneLo s + (k : Int)))) (.lst []) μ = .ok (.bl (!decide (laneN a b s = 0))) μ := by
      rw [neD_nil (plains_map fun _ => rfl)]
      cases hk : laneN a b s with
      | zero => rfl
      | succ n => rw [List.range_succ_eq_map]; rfl
    by_cases h0 : laneN a b s = 0
    · rw [h0] at hne ⊢
      simp only [asgS, retS, retNS, dropS, ifS, setS, nilS, op2, op1, toB, ifE, andE, orE, notE, andT, orT, notT, consA, nilA, tupE, lstE, callE, cllE, mth1, mthL, vE, cE, nameG, tupG, consG, nilG, slE, noO, someO, thenF, Out.bind_ok, List.getElem?_cons_succ, List.getElem?_cons_zero, List.set_cons_zero, List.set_cons_succ, List.length_cons, List.length_nil, Option.bind_some, Nat.zero_add, Nat.reduceAdd, Nat.reduceLeDiff, ↓reduceIte, addD_ii, addD_ss, subD_ii, mulD_ii, fdivD_ii, modD_ii, ltD_ii, leD_ii, gtD_ii, geD_ii, eqD_ii, neD_ii, eqD_ss, neD_ss, max2D_ii, min2D_ii, lenD_s, lenD_l, lenD_t, ixD_l, ixD_t, ixD_o, ixD_s, mkL_f, mkL_t, optD_some, Option.map_some, hne, decide_true, Bool.not_true, Bool.false_eq_true, laneAhead, h0]
    · have hx : atI ((List.range (laneN a b s)).map fun (k : Nat) => D.int (laneLo s + (k : Int))) 0 = some (.int (laneLo s)) := by
        refine atI_nat (by decide) ?_
        rw [List.getElem?_map, List.getElem?_range (by show 0 < _; omega)]
        simp
      simp only [asgS, retS, retNS, dropS, ifS, setS, nilS, op2, op1, toB, ifE, andE, orE, notE, andT, orT, notT, consA, nilA, tupE, lstE, callE, cllE, mth1, mthL, vE, cE, nameG, tupG, consG, nilG, slE, noO, someO, thenF, Out.bind_ok, List.getElem?_cons_succ, List.getElem?_cons_zero, List.set_cons_zero, List.set_cons_succ, List.length_cons, List.length_nil, Option.bind_some, Nat.zero_add, Nat.reduceAdd, Nat.reduceLeDiff, ↓reduceIte, addD_ii, addD_ss, subD_ii, mulD_ii, fdivD_ii, modD_ii, ltD_ii, leD_ii, gtD_ii, geD_ii, eqD_ii, neD_ii, eqD_ss, neD_ss, max2D_ii, min2D_ii, lenD_s, lenD_l, lenD_t, ixD_l, ixD_t, ixD_o, ixD_s, mkL_f, mkL_t, optD_some, Option.map_some, hne, decide_eq_false h0, Bool.not_false, laneAhead, h0, hx, Bool.not_false, decide_false]
end Dm

/-! Mk18: bound; the law k18. -/
namespace Dm
open Dt Fn
open L2 (atI ixN CMul CDiv CPow)
open PySem (sizeLine)
/-! ### signs that two rows have in common -/
def common : List Nat → List Nat → Nat
  | [], _ => 0
  | c :: r, l => if c ∈ l then 1 + common r (l.erase c) else common r l
def minSum (S a b : List Nat) : Nat := (S.map fun c => min (a.count c) (b.count c)).sum
theorem minSum_comm (S a b : List Nat) : minSum S a b = minSum S b a := by
  unfold minSum
  congr 1
  exact List.map_congr_left fun c _ => Nat.min_comm _ _
theorem sum_bump {S : List Nat} {f g : Nat → Nat} {c : Nat} (hc : c ∈ S) (nd : S.Nodup) (h1 : f c = g c + 1) (h2 : ∀ x, x ≠ c → f x = g x) : (S.map f).sum = (S.map g).sum + 1 := by
  induction S with
  | nil => cases hc
  | cons x r ih =>
    obtain ⟨n1, n2⟩ := List.nodup_cons.mp nd
    rw [List.map_cons, List.map_cons, List.sum_cons, List.sum_cons]
    by_cases e : x = c
    · subst e
      have : r.map f = r.map g := List.map_congr_left fun y hy => h2 y fun z => n1 (z ▸ hy)
      rw [this, h1]
      omega
    · rw [ih ((List.mem_cons.mp hc).resolve_left fun z => e z.symm) n2, h2 x e]
      omega
theorem sum_zero : ∀ S : List Nat, (S.map fun _ => (0 : Nat)).sum = 0
  | [] => rfl
  | x :: r => by rw [List.map_cons, List.sum_cons, sum_zero r]
theorem common_sum {S : List Nat} (nd : S.Nodup) : ∀ (a b : List Nat), (∀ c ∈ a, c ∈ S) → common a b = minSum S a b
  | [], b, _ => by
    unfold common minSum
    have : S.map (fun c => min (([] : List Nat).count c) (b.count c)) = S.map fun _ => 0 := List.map_congr_left fun c _ => by simp
    rw [this, sum_zero]
  | c :: r, b, h => by
    have hr : ∀ x ∈ r, x ∈ S := fun x hx => h x (List.mem_cons_of_mem _ hx)
    have hc := h c List.mem_cons_self
    unfold common
    by_cases hb : c ∈ b
    · rw [if_pos hb, common_sum nd r (b.erase c) hr]
      unfold minSum
      rw [sum_bump (f := fun x => min ((c :: r).count x) (b.count x)) (g := fun x => min (r.count x) ((b.erase c).count x)) hc nd ?_ ?_]
      · omega
      · have := List.count_pos_iff.mpr hb
        simp only [List.count_cons_self, List.count_erase_self]
        omega
      · intro x hx
        simp only [List.count_cons_of_ne (fun z => hx z.symm), List.count_erase_of_ne hx]
    · rw [if_neg hb, common_sum nd r b hr]
      unfold minSum
      congr 1
      refine List.map_congr_left fun x _ => ?_
      by_cases hx : x = c
      · subst hx
        rw [List.count_eq_zero_of_not_mem hb]
        omega
      · rw [List.count_cons_of_ne (fun z => hx z.symm)]
theorem dups_ok (a : List Nat) : a.eraseDups.Nodup ∧ ∀ k, k ∈ a.eraseDups ↔ k ∈ a := nodup_dupsN _ a (Nat.le_refl _)
theorem common_comm (a b : List Nat) : common a b = common b a := by
  obtain ⟨nd, hm⟩ := dups_ok (a ++ b)
  rw [common_sum nd a b (fun c hc => (hm c).mpr (List.mem_append.mpr (.inl hc))), common_sum nd b a (fun c hc => (hm c).mpr (List.mem_append.mpr (.inr hc))), minSum_comm]
theorem common_nil : ∀ a : List Nat, common a [] = 0
  | [] => rfl
  | c :: r => by unfold common; rw [if_neg (by simp), common_nil r]
theorem common_self : ∀ a : List Nat, common a a = a.length
  | [] => rfl
  | c :: r => by unfold common; rw [if_pos List.mem_cons_self, List.erase_cons_head, common_self r, List.length_cons]; omega
theorem count_sum {S : List Nat} (nd : S.Nodup) : ∀ a : List Nat, (∀ c ∈ a, c ∈ S) → a.length = (S.map fun c => a.count c).sum
  | [], _ => by
    have : S.map (fun c => ([] : List Nat).count c) = S.map fun _ => 0 := List.map_congr_left fun c _ => by simp
    rw [this, sum_zero]
    rfl
  | c :: r, h => by
    rw [sum_bump (f := fun x => (c :: r).count x) (g := fun x => r.count x) (h c List.mem_cons_self) nd (List.count_cons_self ..) (fun x hx => List.count_cons_of_ne (fun z => hx z.symm)), ← count_sum nd r (fun x hx => h x (List.mem_cons_of_mem _ hx)), List.length_cons]
theorem sum_le_sum {S : List Nat} {f g : Nat → Nat} (h : ∀ x ∈ S, f x ≤ g x) : (S.map f).sum ≤ (S.map g).sum := by
  induction S with
  | nil => exact Nat.le_refl _
  | cons x r ih =>
    rw [List.map_cons, List.map_cons, List.sum_cons, List.sum_cons]
    have := h x List.mem_cons_self
    have := ih fun y hy => h y (List.mem_cons_of_mem _ hy)
    omega
/-- what stands in both, in order -/
theorem common_sub {t a b : List Nat} (ha : t.Sublist a) (hb : t.Sublist b) : t.length ≤ common a b := by
  obtain ⟨nd, hm⟩ := dups_ok a
  rw [common_sum nd a b (fun c hc => (hm c).mpr hc), count_sum nd t (fun c hc => (hm c).mpr (ha.subset hc))]
  refine sum_le_sum fun c _ => ?_
  have h1 := ha.count_le c
  have h2 := hb.count_le c
  omega
theorem drop_take_map (xs : List Nat) (i n : Nat) (h : i + n ≤ xs.length) : (List.range n).map (fun k => (xs[i + k]?).getD 0) = (xs.drop i).take n := by
  apply List.ext_getElem?
  intro k
  rw [List.getElem?_map]
  by_cases hk : k < n
  · rw [List.getElem?_range hk, List.getElem?_take_of_lt hk, List.getElem?_drop, Option.map_some]
    obtain ⟨x, hx⟩ := get_ex (show i + k < xs.length by omega)
    rw [hx]
    rfl
  · rw [List.getElem?_eq_none (by rw [List.length_range]; omega), List.getElem?_eq_none (by rw [List.length_take]; omega)]
    rfl
theorem lane_common (a b : List Nat) (s : Int) : (likesF a b s).count 61 ≤ common a b := by
  have hlo : 0 ≤ laneLo s := by unfold laneLo; omega
  generalize hn : laneN a b s = n
  have hN : n = 0 ∨ ((laneLo s).toNat + n ≤ a.length ∧ (laneLo s + s).toNat + n ≤ b.length ∧ 0 ≤ laneLo s + s) := by
    rw [← hn]
    unfold laneN laneHi laneLo
    omega
  rcases hN with hN | ⟨h1, h2, h3⟩
  · have : (likesF a b s) = [] := List.length_eq_zero_iff.mp (by rw [likesF_len, hn, hN])
    rw [this]
    exact Nat.zero_le _
  · have hc : (likesF a b s).count 61 = ((List.range n).filter fun k => decide (a[(laneLo s).toNat + k]? = b[(laneLo s + s).toNat + k]?)).length := by
      unfold likesF
      rw [hn, List.count_eq_countP, List.countP_map, List.countP_eq_length_filter]
      congr 1
      refine List.filter_congr fun k _ => ?_
      have e1 : (laneLo s + (k : Int)).toNat = (laneLo s).toNat + k := by omega
      have e2 : (laneLo s + (k : Int) + s).toNat = (laneLo s + s).toNat + k := by omega
      simp only [Function.comp, e1, e2]
      by_cases e : a[(laneLo s).toNat + k]? = b[(laneLo s + s).toNat + k]?
      · rw [if_pos e, decide_eq_true e]; rfl
      · rw [if_neg e, decide_eq_false e]; rfl
    rw [hc]
    generalize hK : (List.range n).filter (fun k => decide (a[(laneLo s).toNat + k]? = b[(laneLo s + s).toNat + k]?)) = ks
    have hsub : ks.Sublist (List.range n) := by rw [← hK]; exact List.filter_sublist
    have ha : (ks.map fun k => (a[(laneLo s).toNat + k]?).getD 0).Sublist a := by
      have := hsub.map fun k => (a[(laneLo s).toNat + k]?).getD 0
      rw [drop_take_map a _ n h1] at this
      exact this.trans ((List.take_sublist _ _).trans (List.drop_sublist _ _))
    have hb : (ks.map fun k => (a[(laneLo s).toNat + k]?).getD 0).Sublist b := by
      have e : ks.map (fun k => (a[(laneLo s).toNat + k]?).getD 0) = ks.map fun k => (b[(laneLo s + s).toNat + k]?).getD 0 := List.map_congr_left fun k hk => by
        rw [← hK] at hk
        rw [of_decide_eq_true (List.mem_filter.mp hk).2]
      rw [e]
      have := hsub.map fun k => (b[(laneLo s + s).toNat + k]?).getD 0
      rw [drop_take_map b _ n h2] at this
      exact this.trans ((List.take_sublist _ _).trans (List.drop_sublist _ _))
    have := common_sub ha hb
    rw [List.length_map] at this
    exact this
/-! ### bound -/
theorem sum_int (f : Nat → Nat) : ∀ S : List Nat, (S.map fun c => ((f c : Nat) : Int)).sum = ((S.map f).sum : Nat)
  | [] => rfl
  | x :: r => by rw [List.map_cons, List.map_cons, List.sum_cons, List.sum_cons, sum_int f r]; omega
theorem sortTx_one (a : List Nat) : ∃ S : List Nat, sortTxL (a.map fun c => [c]) = S.map (fun c => [c]) ∧ S.Nodup ∧ ∀ k, k ∈ S ↔ k ∈ a := by
  have hp : (sortTxL (a.map fun c => [c])).Perm (a.map fun c => [c]).eraseDups := List.mergeSort_perm _ _
  obtain ⟨nd, hm⟩ := nodup_dups (a.map fun c => [c])
  have hmem : ∀ x, x ∈ sortTxL (a.map fun c => [c]) ↔ ∃ c ∈ a, x = [c] := fun x => by
    rw [hp.mem_iff, hm x, List.mem_map]
    exact ⟨fun ⟨c, h1, h2⟩ => ⟨c, h1, h2.symm⟩, fun ⟨c, h1, h2⟩ => ⟨c, h1, h2.symm⟩⟩
  have hnd := hp.nodup_iff.mpr nd
  generalize sortTxL (a.map fun c => [c]) = L at hmem hnd
  have e : L = (L.map fun x => x.headD 0).map fun c => [c] := by
    rw [List.map_map]
    conv => lhs; rw [← List.map_id L]
    refine List.map_congr_left fun x hx => ?_
    obtain ⟨c, _, rfl⟩ := (hmem x).mp hx
    rfl
  refine ⟨L.map fun x => x.headD 0, e, ?_, fun k => ?_⟩
  · rw [e] at hnd
    rw [List.nodup_iff_pairwise_ne] at hnd ⊢
    rw [List.pairwise_map] at hnd
    exact hnd.imp fun {x y} h z => h (by rw [z])
  · rw [List.mem_map]
    constructor
    · rintro ⟨x, hx, rfl⟩
      obtain ⟨c, hc, rfl⟩ := (hmem x).mp hx
      exact hc
    · intro hk
      exact ⟨[k], (hmem _).mpr ⟨k, hk, rfl⟩, rfl⟩
theorem call1_eq {gf : FF} {fe : FE} {ρ : Dt.Env} {μ μ1 : Mu} {d : D} (h : fe ρ μ = .ok d μ1) : callE gf (consA fe nilA) ρ μ = gf [d] μ1 := by
  unfold callE consA
  simp only [h, Out.bind_ok, nilA]
theorem bound_ok {a b : List Nat} {g l : Int} (ha : a.length ≤ 1000) (hb : b.length ≤ 1000) (hg : -(2 ^ 64) < g ∧ g < 2 ^ 64) (μ : Mu) : g_bound [.str a, .str b, .tup [.int g, .int l]] μ = .ok (.int (g * (common a b : Nat))) μ := by
  rw [e_bound]
  rw [fn_eq (d := .int (g * (common a b : Nat))) (μ' := μ), trim_id (by rfl)]
  show b_bound [some (.str a), some (.str b), some (.tup [.int g, .int l]), none] μ = _
  unfold b_bound
  obtain ⟨S, hS, nd, hm⟩ := sortTx_one a
  have hsl : S.length ≤ 1000 := by
    have hle : S.length ≤ a.length := by
      have p : S.Perm a.eraseDups := nodup_perm nd (dups_ok a).1 fun k => (hm k).trans ((dups_ok a).2 k).symm
      rw [p.length_eq]
      have := count_sum (dups_ok a).1 a (fun c hc => ((dups_ok a).2 c).mpr hc)
      rw [this]
      have h1 : ∀ L : List Nat, (∀ c ∈ L, 1 ≤ a.count c) → L.length ≤ (L.map fun c => a.count c).sum := by
        intro L
        induction L with
        | nil => intro _; exact Nat.le_refl _
        | cons x r ih =>
          intro h
          rw [List.length_cons, List.map_cons, List.sum_cons]
          have := h x List.mem_cons_self
          have := ih fun c hc => h c (List.mem_cons_of_mem _ hc)
          omega
      exact h1 _ fun c hc => List.count_pos_iff.mpr (((dups_ok a).2 c).mp hc)
    omega
  have hch : (callE (charsF false) (consA (vE 0) nilA)) [some (.str a), some (.str b), some (.tup [.int g, .int l]), none] μ = .ok (.lst (a.map oneD)) μ := by
    simp only [callE, consA, nilA, vE, List.getElem?_cons_zero, Out.bind_ok, charsF, if_pos ha, mkL_f]
  have hst : op1 (sortTxD false) (callE (charsF false) (consA (vE 0) nilA)) [some (.str a), some (.str b), some (.tup [.int g, .int l]), none] μ = .ok (.lst (S.map oneD)) μ := by
    unfold op1
    rw [hch, Out.bind_ok]
    unfold sortTxD
    have e : toStrs (a.map oneD) = some (a.map fun c => [c]) := by
      have : a.map oneD = (a.map fun c => [c]).map D.str := by rw [List.map_map]; rfl
      rw [this, toStrs_map]
    simp only [getL, e]
    rw [if_pos (by rw [List.length_map]; exact ha), mkL_f, hS, List.map_map]
    rfl
  have hlc := lc_map (gt := nameG 3) (vs := [3]) (fe := (callE min2D (consA (mth1 countD (vE 0) (vE 3)) (consA (mth1 countD (vE 1) (vE 3)) nilA)))) false (list_eq hst) (by rw [PySem.sizeLine_eq]; omega) (fun c => D.int ((min (a.count c) (b.count c) : Nat) : Int)) (fun c hc => by
    refine ⟨[some (.str a), some (.str b), some (.tup [.int g, .int l]), some (oneD c)], rfl, ?_⟩
    have e1 : mth1 countD (vE 0) (vE 3) [some (.str a), some (.str b), some (.tup [.int g, .int l]), some (oneD c)] μ = .ok (.int (a.count c : Nat)) μ := rfl
    have e2 : mth1 countD (vE 1) (vE 3) [some (.str a), some (.str b), some (.tup [.int g, .int l]), some (oneD c)] μ = .ok (.int (b.count c : Nat)) μ := rfl
    simp only [callE, consA, nilA, e1, e2, Out.bind_ok, min2D_ii]
    congr 2
    omega)
  rw [mkL_f, show S.map (fun c => D.int ((min (a.count c) (b.count c) : Nat) : Int)) = (S.map fun c => ((min (a.count c) (b.count c) : Nat) : Int)).map D.int by rw [List.map_map]; rfl] at hlc
  have hsum : (S.map fun c => ((min (a.count c) (b.count c) : Nat) : Int)).sum = ((common a b : Nat) : Int) := by
    rw [common_sum nd a b (fun c hc => (hm c).mpr hc)]
    exact sum_int (fun c => min (a.count c) (b.count c)) S
  have m1 : CMul g ((common a b : Nat) : Int) := cmul_small _ hg.1 hg.2
  have A0 : atI [D.int g, D.int l] 0 = some (.int g) := rfl
  refine ret_eq ?_
  refine (op2_eq (x := .int g) (y := .int ((common a b : Nat) : Int)) (μ1 := μ) (μ2 := μ) (by simp only [asgS, retS, retNS, dropS, ifS, setS, nilS, op2, op1, toB, ifE, andE, orE, notE, andT, orT, notT, consA, nilA, tupE, lstE, callE, cllE, mth1, mthL, vE, cE, nameG, tupG, consG, nilG, slE, noO, someO, thenF, Out.bind_ok, List.getElem?_cons_succ, List.getElem?_cons_zero, List.set_cons_zero, List.set_cons_succ, List.length_cons, List.length_nil, Option.bind_some, Nat.zero_add, Nat.reduceAdd, Nat.reduceLeDiff, ↓reduceIte, addD_ii, addD_ss, subD_ii, mulD_ii, fdivD_ii, modD_ii, ltD_ii, leD_ii, gtD_ii, geD_ii, eqD_ii, neD_ii, eqD_ss, neD_ss, max2D_ii, min2D_ii, lenD_s, lenD_l, lenD_t, ixD_l, ixD_t, ixD_o, ixD_s, mkL_f, mkL_t, optD_some, Option.map_some, A0]) ?_).trans (by rw [mulD_ii, if_pos m1])
  rw [call1_eq hlc]
  unfold sumD ints1
  simp only [getL, toInts_map, hsum]
theorem memD_one (c : Nat) : ∀ l : List Nat, memD (.str [c]) (l.map oneD) = decide (c ∈ l)
  | [] => rfl
  | x :: r => by
    have ih := memD_one c r
    unfold memD at ih ⊢
    rw [List.map_cons, List.any_cons, ih]
    have : eqvD (oneD x) (.str [c]) = decide (x = c) := by simp [oneD, eqvD, Bool.beq_eq_decide_eq]
    rw [this]
    by_cases h : x = c
    · subst h; simp
    · have : c ≠ x := fun z => h z.symm
      simp [h, this]
theorem inD_own (c : Nat) {left : List Nat} {k : Nat} {μ : Mu} (hk : μ[k]? = some (.lst (left.map oneD))) : inD false (.str [c]) (.own k) μ = .ok (.bl (decide (c ∈ left))) μ := by
  have hall : (left.map oneD).all flatD = true := by
    rw [List.all_eq_true]
    intro d hd
    obtain ⟨x, _, rfl⟩ := List.mem_map.mp hd
    rfl
  show (match getL (.own k) μ with
    | some ds => if flatD (.str [c]) && ds.all flatD then Out.ok (D.bl (xor false (memD (.str [c]) ds))) μ else .bad
    | none => .bad) = _
  have hg : getL (.own k) μ = some (left.map oneD) := by
    unfold getL
    simp only [hk, moL]
  rw [hg]
  simp only [hall, memD_one]
  simp [flatD]
theorem erase_one (c : Nat) : ∀ l : List Nat, ((l.map fun x => [x]).erase [c]).map D.str = (l.erase c).map oneD
  | [] => rfl
  | x :: r => by
    rw [List.map_cons]
    by_cases h : x = c
    · subst h
      rw [List.erase_cons_head, List.erase_cons_head, List.map_map]
      rfl
    · have h2 : ¬ ([x] == [c]) = true := by simp [h]
      rw [List.erase_cons_tail h2, List.erase_cons_tail (by simpa using h), List.map_cons, List.map_cons, erase_one c r]
      rfl
theorem mem_one (c : Nat) (l : List Nat) : [c] ∈ (l.map fun x => [x]) ↔ c ∈ l := by
  rw [List.mem_map]
  exact ⟨fun ⟨x, h1, h2⟩ => by cases h2; exact h1, fun h => ⟨c, h, rfl⟩⟩
theorem k18 (ns : List Int) : ∃ μ', g_k18_law [.scr ns] [] = .ok (.bl true) μ' := by
  have key : Does (b_k18_law [some (.scr ns), none, none, none, none, none, none, none, none, none, none] []) fun fl μ' => fl = .rt (.bl true) := by
    unfold b_k18_law
    refine seq_nx (law_start 79 ns _) ?_
    obtain ⟨L, st1, e1, HL⟩ := letters_ok ⟨79, ns, 0⟩ []
    have L0 : L ≠ [] := fun z => by have := HL.lo; rw [z] at this; simp at this
    have L1 : L.length < 1073741824 := by have := HL.hi; omega
    obtain ⟨g, l, st2, e2, Sc⟩ := scale_ok st1 []
    obtain ⟨a, st3, e3, la, ma⟩ := row_ok L0 L1 (most := 60) (by decide) (by decide) st2 []
    have la : a.length ≤ 60 := la
    refine seq_nx (ρ' := [some (.scr ns), some (.own 1), some (.str L), none, none, none, none, none, none, none, none]) (μ' := R0 st1 []) (by simp only [asgS, retS, retNS, dropS, ifS, setS, nilS, op2, op1, toB, ifE, andE, orE, notE, andT, orT, notT, consA, nilA, tupE, lstE, callE, cllE, mth1, mthL, vE, cE, nameG, tupG, consG, nilG, slE, noO, someO, thenF, Out.bind_ok, List.getElem?_cons_succ, List.getElem?_cons_zero, List.set_cons_zero, List.set_cons_succ, List.length_cons, List.length_nil, Option.bind_some, Nat.zero_add, Nat.reduceAdd, Nat.reduceLeDiff, ↓reduceIte, e1]) ?_
    refine seq_nx (ρ' := [some (.scr ns), some (.own 1), some (.str L), some (.tup [.int g, .int l]), none, none, none, none, none, none, none]) (μ' := R0 st2 []) (by simp only [asgS, retS, retNS, dropS, ifS, setS, nilS, op2, op1, toB, ifE, andE, orE, notE, andT, orT, notT, consA, nilA, tupE, lstE, callE, cllE, mth1, mthL, vE, cE, nameG, tupG, consG, nilG, slE, noO, someO, thenF, Out.bind_ok, List.getElem?_cons_succ, List.getElem?_cons_zero, List.set_cons_zero, List.set_cons_succ, List.length_cons, List.length_nil, Option.bind_some, Nat.zero_add, Nat.reduceAdd, Nat.reduceLeDiff, ↓reduceIte, e2]) ?_
    refine seq_nx (ρ' := [some (.scr ns), some (.own 1), some (.str L), some (.tup [.int g, .int l]), some (.str a), none, none, none, none, none, none]) (μ' := R0 st3 []) (by simp only [asgS, retS, retNS, dropS, ifS, setS, nilS, op2, op1, toB, ifE, andE, orE, notE, andT, orT, notT, consA, nilA, tupE, lstE, callE, cllE, mth1, mthL, vE, cE, nameG, tupG, consG, nilG, slE, noO, someO, thenF, Out.bind_ok, List.getElem?_cons_succ, List.getElem?_cons_zero, List.set_cons_zero, List.set_cons_succ, List.length_cons, List.length_nil, Option.bind_some, Nat.zero_add, Nat.reduceAdd, Nat.reduceLeDiff, ↓reduceIte, e3]) ?_
    obtain ⟨b1, st4, e4, lb1, _⟩ := row_ok L0 L1 (most := 60) (by decide) (by decide) st3 []
    obtain ⟨b2, st5, e5, lb2, _⟩ := near_ok (r := a) L0 L1 (by omega) st4 []
    obtain ⟨v, st6, e6, v0, v1⟩ := next_ok st5 [] (m := 3) (by decide) (by decide)
    have lb1 : b1.length ≤ 60 := lb1
    obtain ⟨b, hb, lb⟩ : ∃ b, atI [D.str b1, D.str b2, D.str a.reverse] v = some (.str b) ∧ b.length ≤ 60 := by
      rcases (show v = 0 ∨ v = 1 ∨ v = 2 by omega) with rfl | rfl | rfl
      · exact ⟨b1, rfl, lb1⟩
      · exact ⟨b2, rfl, lb2⟩
      · exact ⟨a.reverse, rfl, by rw [List.length_reverse]; exact la⟩
    have z3 : 0 + 1 + 1 + 1 ≤ 1000 := by decide
    have hrev : revD (.str a) (R0 st5 []) = .ok (.str a.reverse) (R0 st5 []) := rfl
    refine seq_nx (ρ' := [some (.scr ns), some (.own 1), some (.str L), some (.tup [.int g, .int l]), some (.str a), some (.str b), none, none, none, none, none]) (μ' := R0 st6 []) (by simp only [asgS, retS, retNS, dropS, ifS, setS, nilS, op2, op1, toB, ifE, andE, orE, notE, andT, orT, notT, consA, nilA, tupE, lstE, callE, cllE, mth1, mthL, vE, cE, nameG, tupG, consG, nilG, slE, noO, someO, thenF, Out.bind_ok, List.getElem?_cons_succ, List.getElem?_cons_zero, List.set_cons_zero, List.set_cons_succ, List.length_cons, List.length_nil, Option.bind_some, Nat.zero_add, Nat.reduceAdd, Nat.reduceLeDiff, ↓reduceIte, addD_ii, addD_ss, subD_ii, mulD_ii, fdivD_ii, modD_ii, ltD_ii, leD_ii, gtD_ii, geD_ii, eqD_ii, neD_ii, eqD_ss, neD_ss, max2D_ii, min2D_ii, lenD_s, lenD_l, lenD_t, ixD_l, ixD_t, ixD_o, ixD_s, mkL_f, mkL_t, optD_some, Option.map_some, e4, e5, hrev, if_pos z3, e6, hb]) ?_
    refine seq_nx (ρ' := [some (.scr ns), some (.own 1), some (.str L), some (.tup [.int g, .int l]), some (.str a), some (.str b), some (.int 0), none, none, none, none]) (μ' := R0 st6 []) rfl ?_
    refine seq_nx (ρ' := [some (.scr ns), some (.own 1), some (.str L), some (.tup [.int g, .int l]), some (.str a), some (.str b), some (.int 0), some (.own 2), none, none, none]) (μ' := R0 st6 [.lst (b.map oneD)]) (by
      refine asg_eq (d := .own 2) ?_ rfl
      have : b.length ≤ 1000 := by omega
      simp only [callE, consA, nilA, vE, List.getElem?_cons_succ, List.getElem?_cons_zero, Out.bind_ok, charsF, if_pos this, mkL_t]
      rfl) ?_
    have g64 : -(2 ^ 64) < g ∧ g < 2 ^ 64 := by have := Sc.a0; have := Sc.a1; omega
    have A0 : atI [D.int g, D.int l] 0 = some (.int g) := rfl
    refine does_seq (for_does (R := fun fl μ => Does (thenF fl μ _) _) (str_eq (s := a) (fe := vE 4) (μ1 := R0 st6 [.lst (b.map oneD)]) rfl) (fun done ρ μ => ∃ (n : Nat) (left rest : List Nat), a = done ++ rest ∧ n + common rest left = common a b ∧ (∃ o8, ρ = [some (.scr ns), some (.own 1), some (.str L), some (.tup [.int g, .int l]), some (.str a), some (.str b), some (.int (g * (n : Int))), some (.own 2), o8, none, none]) ∧ μ = R0 st6 [.lst (left.map oneD)])
      ⟨0, b, a, rfl, by omega, ⟨_, by rw [show g * ((0 : Nat) : Int) = 0 by simp]⟩, rfl⟩ ?_ ?_)
    · rintro done c rst hx ρ μ ⟨n, left, rest, hr, hn, ⟨o8, rfl⟩, rfl⟩
      obtain rfl : rest = c :: rst := by
        rw [hx] at hr
        exact (List.append_cancel_left hr).symm
      refine ⟨[some (.scr ns), some (.own 1), some (.str L), some (.tup [.int g, .int l]), some (.str a), some (.str b), some (.int (g * (n : Int))), some (.own 2), some (.str [c]), none, none], rfl, ?_⟩
      have hk : (R0 st6 [.lst (left.map oneD)])[2]? = some (.lst (left.map oneD)) := rfl
      have hin : toB (op2 (inD false) (vE 8) (vE 7)) [some (.scr ns), some (.own 1), some (.str L), some (.tup [.int g, .int l]), some (.str a), some (.str b), some (.int (g * (n : Int))), some (.own 2), some (.str [c]), none, none] (R0 st6 [.lst (left.map oneD)]) = .ok (decide (c ∈ left)) (R0 st6 [.lst (left.map oneD)]) := by
        refine test_eq ((op2_eq (x := .str [c]) (y := .own 2) rfl rfl).trans ?_)
        exact inD_own c hk
      rw [show common (c :: rst) left = if c ∈ left then 1 + common rst (left.erase c) else common rst left from rfl] at hn
      by_cases hc : c ∈ left
      · rw [decide_eq_true hc] at hin
        rw [if_pos hc] at hn
        have hrem : mthL removeD (vE 7) (consA (vE 8) nilA) [some (.scr ns), some (.own 1), some (.str L), some (.tup [.int g, .int l]), some (.str a), some (.str b), some (.int (g * (n : Int))), some (.own 2), some (.str [c]), none, none] (R0 st6 [.lst (left.map oneD)]) = .ok .non (R0 st6 [.lst ((left.erase c).map oneD)]) := by
          unfold mthL
          simp only [vE, List.getElem?_cons_succ, List.getElem?_cons_zero, Out.bind_ok, getL, hk, moL, consA, nilA]
          unfold removeD
          have e : toStrs (left.map oneD) = some (left.map fun c => [c]) := by
            have : left.map oneD = (left.map fun c => [c]).map D.str := by rw [List.map_map]; rfl
            rw [this, toStrs_map]
          simp only [hk, moL, e]
          rw [if_pos ((mem_one c left).mpr hc), erase_one]
          rfl
        refine .of (b := .nx [some (.scr ns), some (.own 1), some (.str L), some (.tup [.int g, .int l]), some (.str a), some (.str b), some (.int (g * ((n + 1 : Nat) : Int))), some (.own 2), some (.str [c]), none, none]) (μ := R0 st6 [.lst ((left.erase c).map oneD)]) (if_eq_t hin (seq_eq (drop_eq hrem) (asg_eq (d := .int (g * ((n + 1 : Nat) : Int))) ?_ rfl))) ⟨n + 1, left.erase c, rst, by rw [hx, List.append_assoc]; rfl, by omega, ⟨_, rfl⟩, rfl⟩
        have eg : g * (n : Int) + g = g * ((n + 1 : Nat) : Int) := by rw [Int.natCast_succ, Int.mul_add, Int.mul_one]
        simp only [asgS, retS, retNS, dropS, ifS, setS, nilS, op2, op1, toB, ifE, andE, orE, notE, andT, orT, notT, consA, nilA, tupE, lstE, callE, cllE, mth1, mthL, vE, cE, nameG, tupG, consG, nilG, slE, noO, someO, thenF, Out.bind_ok, List.getElem?_cons_succ, List.getElem?_cons_zero, List.set_cons_zero, List.set_cons_succ, List.length_cons, List.length_nil, Option.bind_some, Nat.zero_add, Nat.reduceAdd, Nat.reduceLeDiff, ↓reduceIte, addD_ii, addD_ss, subD_ii, mulD_ii, fdivD_ii, modD_ii, ltD_ii, leD_ii, gtD_ii, geD_ii, eqD_ii, neD_ii, eqD_ss, neD_ss, max2D_ii, min2D_ii, lenD_s, lenD_l, lenD_t, ixD_l, ixD_t, ixD_o, ixD_s, mkL_f, mkL_t, optD_some, Option.map_some, A0, eg]
      · rw [decide_eq_false hc] at hin
        rw [if_neg hc] at hn
        exact .of (if_eq_f hin rfl) ⟨n, left, rst, by rw [hx, List.append_assoc]; rfl, hn, ⟨_, rfl⟩, rfl⟩
    · rintro ρ μ ⟨n, left, rest, hr, hn, ⟨o8, rfl⟩, rfl⟩
      obtain rfl : rest = [] := by
        have := congrArg List.length hr
        rw [List.length_append] at this
        exact List.length_eq_zero_iff.mp (by omega)
      have hn : n = common a b := by
        have hn' : n + 0 = common a b := hn
        omega
      subst hn
      generalize hmu : R0 st6 [.lst (left.map oneD)] = μ2
      have q1 := bound_ok (a := a) (b := b) (g := g) (l := l) (by omega) (by omega) g64 μ2
      have q2 := bound_ok (a := b) (b := a) (g := g) (l := l) (by omega) (by omega) g64 μ2
      have q3 := bound_ok (a := a) (b := []) (g := g) (l := l) (by omega) (by decide) g64 μ2
      have q4 := bound_ok (a := a) (b := a) (g := g) (l := l) (by omega) (by omega) g64 μ2
      rw [← common_comm a b] at q2
      rw [common_nil, show g * ((0 : Nat) : Int) = 0 by simp] at q3
      rw [common_self] at q4
      have sm := same_eq (x := .int (g * (common a b : Nat))) (y := .int (g * (common a b : Nat))) (μ := μ2) 8 rfl rfl rfl rfl
      have m1 : CMul g (a.length : Int) := cmul_small _ g64.1 g64.2
      refine seq_nx (ρ' := [some (.scr ns), some (.own 1), some (.str L), some (.tup [.int g, .int l]), some (.str a), some (.str b), some (.int (g * (common a b : Nat))), some (.own 2), o8, none, none]) (μ' := μ2) (by simp only [asgS, retS, retNS, dropS, ifS, setS, nilS, op2, op1, toB, ifE, andE, orE, notE, andT, orT, notT, consA, nilA, tupE, lstE, callE, cllE, mth1, mthL, vE, cE, nameG, tupG, consG, nilG, slE, noO, someO, thenF, Out.bind_ok, List.getElem?_cons_succ, List.getElem?_cons_zero, List.set_cons_zero, List.set_cons_succ, List.length_cons, List.length_nil, Option.bind_some, Nat.zero_add, Nat.reduceAdd, Nat.reduceLeDiff, ↓reduceIte, addD_ii, addD_ss, subD_ii, mulD_ii, fdivD_ii, modD_ii, ltD_ii, leD_ii, gtD_ii, geD_ii, eqD_ii, neD_ii, eqD_ss, neD_ss, max2D_ii, min2D_ii, lenD_s, lenD_l, lenD_t, ixD_l, ixD_t, ixD_o, ixD_s, mkL_f, mkL_t, optD_some, Option.map_some, q1, q2, sm, decide_true, Bool.not_true, Bool.false_eq_true]) ?_
      refine seq_nx (ρ' := [some (.scr ns), some (.own 1), some (.str L), some (.tup [.int g, .int l]), some (.str a), some (.str b), some (.int (g * (common a b : Nat))), some (.own 2), o8, none, none]) (μ' := μ2) (by simp only [asgS, retS, retNS, dropS, ifS, setS, nilS, op2, op1, toB, ifE, andE, orE, notE, andT, orT, notT, consA, nilA, tupE, lstE, callE, cllE, mth1, mthL, vE, cE, nameG, tupG, consG, nilG, slE, noO, someO, thenF, Out.bind_ok, List.getElem?_cons_succ, List.getElem?_cons_zero, List.set_cons_zero, List.set_cons_succ, List.length_cons, List.length_nil, Option.bind_some, Nat.zero_add, Nat.reduceAdd, Nat.reduceLeDiff, ↓reduceIte, addD_ii, addD_ss, subD_ii, mulD_ii, fdivD_ii, modD_ii, ltD_ii, leD_ii, gtD_ii, geD_ii, eqD_ii, neD_ii, eqD_ss, neD_ss, max2D_ii, min2D_ii, lenD_s, lenD_l, lenD_t, ixD_l, ixD_t, ixD_o, ixD_s, mkL_f, mkL_t, optD_some, Option.map_some, q3, q4, A0, if_pos m1, decide_true, Bool.not_true, Bool.false_eq_true]) ?_
      rw [← hmu]
      refine does_seq (for_does (R := fun fl μ => Does (thenF fl μ _) _) (rng1_eq (j := 6) (μ1 := R0 st6 [.lst (left.map oneD)]) rfl (by decide) (by decide)) (fun _ ρ μ => ∃ (st : St) (o9 o10 : Option D), ρ = [some (.scr ns), some (.own 1), some (.str L), some (.tup [.int g, .int l]), some (.str a), some (.str b), some (.int (g * (common a b : Nat))), some (.own 2), o8, o9, o10] ∧ μ = R0 st [.lst (left.map oneD)]) ⟨_, _, _, rfl, rfl⟩ ?_ ?_)
      · rintro done i rst hx ρ μ ⟨st, o9, o10, rfl, rfl⟩
        refine ⟨[some (.scr ns), some (.own 1), some (.str L), some (.tup [.int g, .int l]), some (.str a), some (.str b), some (.int (g * (common a b : Nat))), some (.own 2), o8, some (.int (0 + (i : Int))), o10], rfl, ?_⟩
        obtain ⟨s, st7, e7, s0, s1⟩ := next_ok st [.lst (left.map oneD)] (m := 41) (by decide) (by decide)
        have e8 := likes_ok (a := a) (b := b) (s := s - 20) (by omega) (by omega) (by omega) (by omega) (R0 st7 [.lst (left.map oneD)])
        refine seq_nx (ρ' := [some (.scr ns), some (.own 1), some (.str L), some (.tup [.int g, .int l]), some (.str a), some (.str b), some (.int (g * (common a b : Nat))), some (.own 2), o8, some (.int (0 + (i : Int))), some (.str (likesF a b (s - 20)))]) (μ' := R0 st7 [.lst (left.map oneD)]) (by simp only [asgS, retS, retNS, dropS, ifS, setS, nilS, op2, op1, toB, ifE, andE, orE, notE, andT, orT, notT, consA, nilA, tupE, lstE, callE, cllE, mth1, mthL, vE, cE, nameG, tupG, consG, nilG, slE, noO, someO, thenF, Out.bind_ok, List.getElem?_cons_succ, List.getElem?_cons_zero, List.set_cons_zero, List.set_cons_succ, List.length_cons, List.length_nil, Option.bind_some, Nat.zero_add, Nat.reduceAdd, Nat.reduceLeDiff, ↓reduceIte, addD_ii, addD_ss, subD_ii, mulD_ii, fdivD_ii, modD_ii, ltD_ii, leD_ii, gtD_ii, geD_ii, eqD_ii, neD_ii, eqD_ss, neD_ss, max2D_ii, min2D_ii, lenD_s, lenD_l, lenD_t, ixD_l, ixD_t, ixD_o, ixD_s, mkL_f, mkL_t, optD_some, Option.map_some, e7, e8]) ?_
        have hcm := lane_common a b (s - 20)
        have hle : g * (((likesF a b (s - 20)).count 61 : Nat) : Int) ≤ g * ((common a b : Nat) : Int) := Int.mul_le_mul_of_nonneg_left (by omega) (by have := Sc.a0; omega)
        have hnl : ¬ (g * ((common a b : Nat) : Int) < g * (((likesF a b (s - 20)).count 61 : Nat) : Int)) := by omega
        have m2 : CMul g (((likesF a b (s - 20)).count 61 : Nat) : Int) := cmul_small _ g64.1 g64.2
        have hcnt : mth1 countD (vE 10) (cE (.str [61])) [some (.scr ns), some (.own 1), some (.str L), some (.tup [.int g, .int l]), some (.str a), some (.str b), some (.int (g * (common a b : Nat))), some (.own 2), o8, some (.int (0 + (i : Int))), some (.str (likesF a b (s - 20)))] (R0 st7 [.lst (left.map oneD)]) = .ok (.int ((likesF a b (s - 20)).count 61 : Nat)) (R0 st7 [.lst (left.map oneD)]) := rfl
        refine .of (b := .nx [some (.scr ns), some (.own 1), some (.str L), some (.tup [.int g, .int l]), some (.str a), some (.str b), some (.int (g * (common a b : Nat))), some (.own 2), o8, some (.int (0 + (i : Int))), some (.str (likesF a b (s - 20)))]) (μ := R0 st7 [.lst (left.map oneD)]) (if_eq_f (test_eq ?_) rfl) ⟨st7, _, _, rfl, rfl⟩
        have hmul : op2 mulD (op2 ixD (vE 3) (cE (.int 0))) (mth1 countD (vE 10) (cE (.str [61]))) [some (.scr ns), some (.own 1), some (.str L), some (.tup [.int g, .int l]), some (.str a), some (.str b), some (.int (g * (common a b : Nat))), some (.own 2), o8, some (.int (0 + (i : Int))), some (.str (likesF a b (s - 20)))] (R0 st7 [.lst (left.map oneD)]) = .ok (.int (g * ((likesF a b (s - 20)).count 61 : Nat))) (R0 st7 [.lst (left.map oneD)]) :=
          (op2_eq (x := .int g) (μ1 := R0 st7 [.lst (left.map oneD)]) (by simp only [asgS, retS, retNS, dropS, ifS, setS, nilS, op2, op1, toB, ifE, andE, orE, notE, andT, orT, notT, consA, nilA, tupE, lstE, callE, cllE, mth1, mthL, vE, cE, nameG, tupG, consG, nilG, slE, noO, someO, thenF, Out.bind_ok, List.getElem?_cons_succ, List.getElem?_cons_zero, List.set_cons_zero, List.set_cons_succ, List.length_cons, List.length_nil, Option.bind_some, Nat.zero_add, Nat.reduceAdd, Nat.reduceLeDiff, ↓reduceIte, addD_ii, addD_ss, subD_ii, mulD_ii, fdivD_ii, modD_ii, ltD_ii, leD_ii, gtD_ii, geD_ii, eqD_ii, neD_ii, eqD_ss, neD_ss, max2D_ii, min2D_ii, lenD_s, lenD_l, lenD_t, ixD_l, ixD_t, ixD_o, ixD_s, mkL_f, mkL_t, optD_some, Option.map_some, A0]) hcnt).trans (by rw [mulD_ii, if_pos m2])
        refine (op2_eq hmul (y := .int (g * (common a b : Nat))) rfl).trans ?_
        rw [gtD_ii, decide_eq_false hnl]
      · rintro ρ μ ⟨st, o9, o10, rfl, rfl⟩
        exact .of (b := .rt (.bl true)) (μ := R0 st [.lst (left.map oneD)]) rfl rfl
  obtain ⟨fl, μ', e, rfl⟩ := key
  refine ⟨μ', ?_⟩
  rw [e_k18_law, fn_eq e, trim_false]
end Dm
namespace Law
theorem law_true : ∀ (c : Fn.CC) (ns : List Int), ns.length ≤ 63 → ∃ μ', Fn.g_k18_law [.scr ns] [] = .ok (.bl true) μ' := fun _ ns _ => Dm.k18 ns
end Law

namespace Law
open PySem L2 Dt
/-! ### the text by places -/
def topS (i : Nat) : Stmt := PySem.Challenge.pw_seedreach_k18_bound_of_two_rows.main.body.getD i (.Pass ⟨0, 0, 0, 0⟩)
abbrev s_law_next : Stmt := topS 8
abbrev s_law_letters : Stmt := topS 9
abbrev s_law_scale : Stmt := topS 12
abbrev s_law_row : Stmt := topS 10
abbrev s_lane_bounds : Stmt := topS 5
abbrev s_likes_of : Stmt := topS 6
abbrev s_law_near : Stmt := topS 11
abbrev s_law_same : Stmt := topS 13
abbrev s_bound : Stmt := topS 1
abbrev s_law : Stmt := topS 14
theorem sc_law_next : FnScope ["_law_h", "_law_many", "_law_at", "_law_cell"] ["_law_h", "_law_many"] (defScope s_law_next) := ⟨rfl, rfl, rfl, by decide +kernel, rfl, by decide +kernel, by decide +kernel⟩
theorem sc_law_letters : FnScope ["_law_h", "_law_turn", "_law_k"] ["_law_h"] (defScope s_law_letters) := ⟨rfl, rfl, rfl, by decide +kernel, rfl, by decide +kernel, by decide +kernel⟩
theorem sc_law_scale : FnScope ["_law_h"] ["_law_h"] (defScope s_law_scale) := ⟨rfl, rfl, rfl, by decide +kernel, rfl, by decide +kernel, by decide +kernel⟩
theorem sc_law_row : FnScope ["_law_h", "_law_letters_here", "_law_most", "_law_k"] ["_law_h", "_law_letters_here", "_law_most"] (defScope s_law_row) := ⟨rfl, rfl, rfl, by decide +kernel, rfl, by decide +kernel, by decide +kernel⟩
theorem sc_lane_bounds : FnScope ["one", "other", "shift"] ["one", "other", "shift"] (defScope s_lane_bounds) := ⟨rfl, rfl, rfl, by decide +kernel, rfl, by decide +kernel, by decide +kernel⟩
theorem sc_likes_of : FnScope ["one", "other", "shift", "begin", "end", "place"] ["one", "other", "shift"] (defScope s_likes_of) := ⟨rfl, rfl, rfl, by decide +kernel, rfl, by decide +kernel, by decide +kernel⟩
theorem sc_law_near : FnScope ["_law_h", "_law_row_here", "_law_letters_here", "_law_found", "_law_keep", "_law_sign", "_law_way"] ["_law_h", "_law_row_here", "_law_letters_here"] (defScope s_law_near) := ⟨rfl, rfl, rfl, by decide +kernel, rfl, by decide +kernel, by decide +kernel⟩
theorem sc_law_same : FnScope ["_law_found", "_law_due", "_law_k"] ["_law_found", "_law_due"] (defScope s_law_same) := ⟨rfl, rfl, rfl, by decide +kernel, rfl, by decide +kernel, by decide +kernel⟩
theorem sc_bound : FnScope ["one", "other", "scale", "sign"] ["one", "other", "scale"] (defScope s_bound) := ⟨rfl, rfl, rfl, by decide +kernel, rfl, by decide +kernel, by decide +kernel⟩
theorem sc_law : FnScope ["_law_script", "_law_h", "_law_letters_here", "_law_scale_here", "_law_one", "_law_other", "_law_due", "_law_left", "_law_sign", "_law_turn", "_law_likes"] ["_law_script"] (defScope s_law) := ⟨rfl, rfl, rfl, by decide +kernel, rfl, by decide +kernel, by decide +kernel⟩
/-! ### what stands behind the top -/
structure Txt (K : PySem.W.Frag) (mg : Str → Option Value) (c : Fn.CC) where
  f_law_next : Addr
  d_law_next : FuncData
  F_law_next : Fun K "_law_next" "_law_next" s_law_next f_law_next d_law_next
  b_law_next : Binds K d_law_next ["_law_h", "_law_many"] []
  m_law_next : mg "_law_next" = some (.ref f_law_next)
  f_law_letters : Addr
  d_law_letters : FuncData
  F_law_letters : Fun K "_law_letters" "_law_letters" s_law_letters f_law_letters d_law_letters
  b_law_letters : Binds K d_law_letters ["_law_h"] []
  m_law_letters : mg "_law_letters" = some (.ref f_law_letters)
  f_law_scale : Addr
  d_law_scale : FuncData
  F_law_scale : Fun K "_law_scale" "_law_scale" s_law_scale f_law_scale d_law_scale
  b_law_scale : Binds K d_law_scale ["_law_h"] []
  m_law_scale : mg "_law_scale" = some (.ref f_law_scale)
  f_law_row : Addr
  d_law_row : FuncData
  F_law_row : Fun K "_law_row" "_law_row" s_law_row f_law_row d_law_row
  b_law_row : Binds K d_law_row ["_law_h", "_law_letters_here", "_law_most"] []
  m_law_row : mg "_law_row" = some (.ref f_law_row)
  f_lane_bounds : Addr
  d_lane_bounds : FuncData
  F_lane_bounds : Fun K "lane_bounds" "lane_bounds" s_lane_bounds f_lane_bounds d_lane_bounds
  b_lane_bounds : Binds K d_lane_bounds ["one", "other", "shift"] []
  m_lane_bounds : mg "lane_bounds" = some (.ref f_lane_bounds)
  f_likes_of : Addr
  d_likes_of : FuncData
  F_likes_of : Fun K "likes_of" "likes_of" s_likes_of f_likes_of d_likes_of
  b_likes_of : Binds K d_likes_of ["one", "other", "shift"] []
  m_likes_of : mg "likes_of" = some (.ref f_likes_of)
  f_law_near : Addr
  d_law_near : FuncData
  F_law_near : Fun K "_law_near" "_law_near" s_law_near f_law_near d_law_near
  b_law_near : Binds K d_law_near ["_law_h", "_law_row_here", "_law_letters_here"] []
  m_law_near : mg "_law_near" = some (.ref f_law_near)
  f_law_same : Addr
  d_law_same : FuncData
  F_law_same : Fun K "_law_same" "_law_same" s_law_same f_law_same d_law_same
  b_law_same : Binds K d_law_same ["_law_found", "_law_due"] []
  m_law_same : mg "_law_same" = some (.ref f_law_same)
  f_bound : Addr
  d_bound : FuncData
  F_bound : Fun K "bound" "bound" s_bound f_bound d_bound
  b_bound : Binds K d_bound ["one", "other", "scale"] []
  m_bound : mg "bound" = some (.ref f_bound)
  f_law : Addr
  d_law : FuncData
  F_law : Fun K "law" "law" s_law f_law d_law
  b_law : Binds K d_law ["_law_script"] []
  m_law : mg "law" = some (.ref f_law)
  z_bool : mg "bool" = none
  z_int : mg "int" = none
  z_isinstance : mg "isinstance" = none
  z_len : mg "len" = none
  z_list : mg "list" = none
  z_max : mg "max" = none
  z_min : mg "min" = none
  z_range : mg "range" = none
  z_set : mg "set" = none
  z_sorted : mg "sorted" = none
  z_str : mg "str" = none
  z_sum : mg "sum" = none
  z_tuple : mg "tuple" = none
  t_LIKE : Tok
  m_LIKE : mg "LIKE" = some (.str "=" t_LIKE)
  t_UNLIKE : Tok
  m_UNLIKE : mg "UNLIKE" = some (.str "/" t_UNLIKE)
section
variable {P : Program} {w : World} {K : PySem.W.Frag} {mg : Str → Option Value} {base : Heap} {c : Fn.CC}
theorem ok_law_next (T : Txt K mg c) : FnD P w K mg base CX0 1 T.f_law_next T.d_law_next ["_law_h", "_law_many"] (Fn.g_law_next) := by
  rw [Fn.e_law_next]
  exact fn_ok (N := ["_law_h", "_law_many", "_law_at", "_law_cell"]) false T.F_law_next sc_law_next T.b_law_next fun cdv A outer s H E hr =>
    (dss_cons (ds_set 2 sc_law_next.nd (de_op d2_mod (de_ix (de_var 0) de_int) (de_callB (dc_max2 rfl) T.z_max boot_max_ (da_cons de_int (da_cons (de_callB dc_len T.z_len boot_len_ (da_cons (de_ix (de_var 0) de_int) da_nil)) da_nil)))))
    (dss_cons (ds_set 3 sc_law_next.nd (de_if (dt_cmp (d2_ne hr.units) (de_ix (de_var 0) de_int) (de_lst false da_nil)) (de_ix (de_ix (de_var 0) de_int) (de_var 2)) de_int))
    (dss_cons (ds_if (dt_cmp d2_ge (de_var 3) (de_op d2_pow de_int de_int))
    (dss_cons (ds_setIx (de_op d2_fdiv (de_var 3) (de_var 1)) (de_ix (de_var 0) de_int) (de_var 2))
    (dss_one (ds_ret (de_op d2_mod (de_var 3) (de_var 1)))))
    dss_nil)
    (dss_cons (ds_setIx (de_op d2_mod (de_op (d2_add false) (de_op (d2_add false) (de_op d2_mul (de_ix (de_var 0) de_int) de_int) (de_op d2_mul (de_var 3) de_int)) de_int) de_int) (de_var 0) de_int)
    (dss_cons (ds_setIx (de_op (d2_add false) (de_ix (de_var 0) de_int) de_int) (de_var 0) de_int)
    (dss_one (ds_ret (de_op d2_mod (de_op d2_fdiv (de_ix (de_var 0) de_int) de_int) (de_var 1)))))))))
theorem ok_law_letters (T : Txt K mg c) : FnD P w K mg base CX0 2 T.f_law_letters T.d_law_letters ["_law_h"] (Fn.g_law_letters) := by
  rw [Fn.e_law_letters]
  exact fn_ok (N := ["_law_h", "_law_turn", "_law_k"]) true T.F_law_letters sc_law_letters T.b_law_letters fun cdv A outer s H E hr =>
    (dss_cons (ds_set 1 sc_law_letters.nd (de_call (ok_law_next T) (hr.mono (by decide)) T.m_law_next pass0 (da_cons (de_var 0) (da_cons de_int da_nil))))
    (dss_one (ds_ret (de_join (de_str []) (de_lc (own := [("_law_k", 2)]) false rfl sc_law_letters.nd (di_rng1 T.z_range (da_cons (de_op (d2_add false) de_int (de_call (ok_law_next T) (hr.mono (by decide)) T.m_law_next pass0 (da_cons (de_var 0) (da_cons de_int da_nil)))) da_nil)) (blkOk_by (own := [("_law_k", 2)]) (N := ["_law_h", "_law_turn", "_law_k"]) (sc := defScope s_law_letters) (by decide +kernel)) (fun _ _ _ _ _ => (dg_name 2 sc_law_letters.nd)) (fun _ _ _ _ _ => dts_nil) (fun _ _ _ _ _ => (de_ix (de_str [97, 98, 99, 100, 101, 102, 103, 104, 105, 106, 107, 108, 109, 110, 111, 112, 113, 114, 115, 116, 117, 118, 119, 120, 121, 122]) (de_op d2_mod (de_op (d2_add false) (de_var 1) (de_op d2_mul de_int (de_var 2))) de_int))))))))
theorem ok_law_scale (T : Txt K mg c) : FnD P w K mg base CX0 2 T.f_law_scale T.d_law_scale ["_law_h"] (Fn.g_law_scale) := by
  rw [Fn.e_law_scale]
  exact fn_ok (N := ["_law_h"]) true T.F_law_scale sc_law_scale T.b_law_scale fun cdv A outer s H E hr =>
    (dss_one (ds_ret (de_tup (da_cons (de_op (d2_add false) de_int (de_call (ok_law_next T) (hr.mono (by decide)) T.m_law_next pass0 (da_cons (de_var 0) (da_cons (de_ix (de_lst false (da_cons de_int (da_cons de_int da_nil))) (de_call (ok_law_next T) (hr.mono (by decide)) T.m_law_next pass0 (da_cons (de_var 0) (da_cons de_int da_nil)))) da_nil)))) (da_cons (de_op (d2_add false) de_int (de_call (ok_law_next T) (hr.mono (by decide)) T.m_law_next pass0 (da_cons (de_var 0) (da_cons de_int da_nil)))) da_nil)))))
theorem ok_law_row (T : Txt K mg c) : FnD P w K mg base CX0 2 T.f_law_row T.d_law_row ["_law_h", "_law_letters_here", "_law_most"] (Fn.g_law_row) := by
  rw [Fn.e_law_row]
  exact fn_ok (N := ["_law_h", "_law_letters_here", "_law_most", "_law_k"]) true T.F_law_row sc_law_row T.b_law_row fun cdv A outer s H E hr =>
    (dss_one (ds_ret (de_join (de_str []) (de_lc (own := [("_law_k", 3)]) false rfl sc_law_row.nd (di_rng1 T.z_range (da_cons (de_call (ok_law_next T) (hr.mono (by decide)) T.m_law_next pass0 (da_cons (de_var 0) (da_cons (de_op (d2_add false) (de_var 2) de_int) da_nil))) da_nil)) (blkOk_by (own := [("_law_k", 3)]) (N := ["_law_h", "_law_letters_here", "_law_most", "_law_k"]) (sc := defScope s_law_row) (by decide +kernel)) (fun _ _ _ _ _ => (dg_name 3 sc_law_row.nd)) (fun _ _ _ _ _ => dts_nil) (fun _ _ _ _ _ => (de_ix (de_var 1) (de_call (ok_law_next T) (hr.mono (by decide)) T.m_law_next pass0 (da_cons (de_var 0) (da_cons (de_callB dc_len T.z_len boot_len_ (da_cons (de_var 1) da_nil)) da_nil)))))))))
theorem ok_lane_bounds (T : Txt K mg c) : FnD P w K mg base CX0 1 T.f_lane_bounds T.d_lane_bounds ["one", "other", "shift"] (Fn.g_lane_bounds) := by
  rw [Fn.e_lane_bounds]
  exact fn_ok (N := ["one", "other", "shift"]) true T.F_lane_bounds sc_lane_bounds T.b_lane_bounds fun cdv A outer s H E hr =>
    (dss_one (ds_ret (de_tup (da_cons (de_callB (dc_max2 rfl) T.z_max boot_max_ (da_cons de_int (da_cons (de_op d2_sub de_int (de_var 2)) da_nil))) (da_cons (de_callB (dc_min2 rfl) T.z_min boot_min_ (da_cons (de_callB dc_len T.z_len boot_len_ (da_cons (de_var 0) da_nil)) (da_cons (de_op d2_sub (de_callB dc_len T.z_len boot_len_ (da_cons (de_var 1) da_nil)) (de_var 2)) da_nil))) da_nil)))))
theorem ok_likes_of (T : Txt K mg c) : FnD P w K mg base CX0 2 T.f_likes_of T.d_likes_of ["one", "other", "shift"] (Fn.g_likes_of) := by
  rw [Fn.e_likes_of]
  exact fn_ok (N := ["one", "other", "shift", "begin", "end", "place"]) true T.F_likes_of sc_likes_of T.b_likes_of fun cdv A outer s H E hr =>
    (dss_cons (ds_asg (de_call (ok_lane_bounds T) (hr.mono (by decide)) T.m_lane_bounds pass0 (da_cons (de_var 0) (da_cons (de_var 1) (da_cons (de_var 2) da_nil)))) (dg_tup rfl (dgs_cons (dg_name 3 sc_likes_of.nd) (dgs_cons (dg_name 4 sc_likes_of.nd) dgs_nil))))
    (dss_one (ds_ret (de_join (de_str []) (de_lc (own := [("place", 5)]) false rfl sc_likes_of.nd (di_rng2 T.z_range (da_cons (de_var 3) (da_cons (de_var 4) da_nil))) (blkOk_by (own := [("place", 5)]) (N := ["one", "other", "shift", "begin", "end", "place"]) (sc := defScope s_likes_of) (by decide +kernel)) (fun _ _ _ _ _ => (dg_name 5 sc_likes_of.nd)) (fun _ _ _ _ _ => dts_nil) (fun _ _ _ _ _ => (de_if (dt_cmp (d2_eq hr.units) (de_ix (de_var 0) (de_var 5)) (de_ix (de_var 1) (de_op (d2_add false) (de_var 5) (de_var 2)))) (de_globS [61] T.m_LIKE) (de_globS [47] T.m_UNLIKE))))))))
theorem ok_law_near (T : Txt K mg c) : FnD P w K mg base CX0 3 T.f_law_near T.d_law_near ["_law_h", "_law_row_here", "_law_letters_here"] (Fn.g_law_near) := by
  rw [Fn.e_law_near]
  exact fn_ok (N := ["_law_h", "_law_row_here", "_law_letters_here", "_law_found", "_law_keep", "_law_sign", "_law_way"]) true T.F_law_near sc_law_near T.b_law_near fun cdv A outer s H E hr =>
    (dss_cons (ds_set 3 sc_law_near.nd (de_call (ok_law_row T) (hr.mono (by decide)) T.m_law_row pass0 (da_cons (de_var 0) (da_cons (de_var 2) (da_cons de_int da_nil)))))
    (dss_cons (ds_set 4 sc_law_near.nd (de_op (d2_add false) de_int (de_call (ok_law_next T) (hr.mono (by decide)) T.m_law_next pass0 (da_cons (de_var 0) (da_cons de_int da_nil)))))
    (dss_cons (ds_for PassesOwn.never rfl (di_str (de_var 1)) (dg_name 5 sc_law_near.nd)
    (dss_cons (ds_set 6 sc_law_near.nd (de_call (ok_law_next T) (hr.mono (by decide)) T.m_law_next pass0 (da_cons (de_var 0) (da_cons (de_var 4) da_nil))))
    (dss_one (ds_if (dt_cmp d2_gt (de_var 6) de_int)
    (dss_one (ds_set 3 sc_law_near.nd (de_op (d2_add false) (de_var 3) (de_var 5))))
    (dss_one (ds_if (dt_cmp d2_gt (de_call (ok_law_next T) (hr.mono (by decide)) T.m_law_next pass0 (da_cons (de_var 0) (da_cons de_int da_nil))) de_int)
    (dss_one (ds_set 3 sc_law_near.nd (de_op (d2_add false) (de_var 3) (de_ix (de_var 2) (de_call (ok_law_next T) (hr.mono (by decide)) T.m_law_next pass0 (da_cons (de_var 0) (da_cons (de_callB dc_len T.z_len boot_len_ (da_cons (de_var 2) da_nil)) da_nil)))))))
    dss_nil))))))
    (dss_one (ds_ret (de_slice false (de_op (d2_add false) (de_var 3) (de_call (ok_law_row T) (hr.mono (by decide)) T.m_law_row pass0 (da_cons (de_var 0) (da_cons (de_var 2) (da_cons de_int da_nil))))) do_none (do_some de_int)))))))
theorem ok_law_same (T : Txt K mg c) : ∀ n : Nat, FnD P w K mg base CX0 (1 + n) T.f_law_same T.d_law_same ["_law_found", "_law_due"] (Fn.g_law_same n)
  | 0 => ⟨⟨fun vs H Q E h => h.1, fun A outer s H args us vs Q E _ _ _ _ h => by
    obtain ⟨_, _, _, _, _, _, h⟩ := h
    exact h.elim⟩, T.b_law_same, T.F_law_same.kp⟩
  | n + 1 => by
    have ih := ok_law_same T n
    rw [Fn.e_law_same]
    exact fn_ok (N := ["_law_found", "_law_due", "_law_k"]) true T.F_law_same sc_law_same T.b_law_same fun cdv A outer s H E hr =>
    (dss_cons (ds_if (dt_val (de_callB dc_isi T.z_isinstance boot_isinstance_ (da_cons (de_var 1) (da_cons (de_tup (da_cons (de_ty T.z_list boot_list_) (da_cons (de_ty T.z_tuple boot_tuple_) da_nil))) da_nil))))
    (dss_cons (ds_if (DW.dt (dw_or (dt_cmp (d2_ne hr.units) (de_callB dc_isi T.z_isinstance boot_isinstance_ (da_cons (de_var 0) (da_cons (de_ty T.z_list boot_list_) da_nil))) (de_callB dc_isi T.z_isinstance boot_isinstance_ (da_cons (de_var 1) (da_cons (de_ty T.z_list boot_list_) da_nil)))) (dw_or1 (dt_cmp (d2_ne hr.units) (de_callB dc_isi T.z_isinstance boot_isinstance_ (da_cons (de_var 0) (da_cons (de_ty T.z_tuple boot_tuple_) da_nil))) (de_callB dc_isi T.z_isinstance boot_isinstance_ (da_cons (de_var 1) (da_cons (de_ty T.z_tuple boot_tuple_) da_nil)))))))
    (dss_one (ds_ret de_bl))
    dss_nil)
    (dss_cons (ds_if (dt_cmp (d2_ne hr.units) (de_callB dc_len T.z_len boot_len_ (da_cons (de_var 0) da_nil)) (de_callB dc_len T.z_len boot_len_ (da_cons (de_var 1) da_nil)))
    (dss_one (ds_ret de_bl))
    dss_nil)
    (dss_cons (ds_for PassesOwn.never rfl (di_rng1 T.z_range (da_cons (de_callB dc_len T.z_len boot_len_ (da_cons (de_var 1) da_nil)) da_nil)) (dg_name 2 sc_law_same.nd)
    (dss_one (ds_if (dt_not (dt_val (de_call ih hr T.m_law_same pass0 (da_cons (de_ix (de_var 0) (de_var 2)) (da_cons (de_ix (de_var 1) (de_var 2)) da_nil)))))
    (dss_one (ds_ret de_bl))
    dss_nil)))
    (dss_one (ds_ret de_bl)))))
    dss_nil)
    (dss_cons (ds_if (dt_val (de_callB dc_isi T.z_isinstance boot_isinstance_ (da_cons (de_var 1) (da_cons (de_ty T.z_str boot_str_) da_nil))))
    (dss_one (ds_ret (de_and (de_callB dc_isi T.z_isinstance boot_isinstance_ (da_cons (de_var 0) (da_cons (de_ty T.z_str boot_str_) da_nil))) (de_one (de_cmp (d2_eq hr.units) (de_var 0) (de_var 1))))))
    dss_nil)
    (dss_one (ds_ret (de_and (de_callB dc_isi T.z_isinstance boot_isinstance_ (da_cons (de_var 0) (da_cons (de_ty T.z_int boot_int_) da_nil))) (de_and (de_cmp (d2_eq hr.units) (de_callB dc_isi T.z_isinstance boot_isinstance_ (da_cons (de_var 0) (da_cons (de_ty T.z_bool boot_bool_) da_nil))) (de_callB dc_isi T.z_isinstance boot_isinstance_ (da_cons (de_var 1) (da_cons (de_ty T.z_bool boot_bool_) da_nil)))) (de_one (de_cmp (d2_eq hr.units) (de_var 0) (de_var 1)))))))))
theorem ok_bound (T : Txt K mg c) : FnD P w K mg base CX0 1 T.f_bound T.d_bound ["one", "other", "scale"] (Fn.g_bound) := by
  rw [Fn.e_bound]
  exact fn_ok (N := ["one", "other", "scale", "sign"]) true T.F_bound sc_bound T.b_bound fun cdv A outer s H E hr =>
    (dss_one (ds_ret (de_op d2_mul (de_ix (de_var 2) de_int) (de_callB (dc_sum rfl) T.z_sum boot_sum_ (da_cons (de_lc (own := [("sign", 3)]) false rfl sc_bound.nd (di_list (de_sortTx false rfl T.z_sorted T.z_set (de_callTy (dc_chars false rfl) T.z_list boot_list_ (da_cons (de_var 0) da_nil)))) (blkOk_by (own := [("sign", 3)]) (N := ["one", "other", "scale", "sign"]) (sc := defScope s_bound) (by decide +kernel)) (fun _ _ _ _ _ => (dg_name 3 sc_bound.nd)) (fun _ _ _ _ _ => dts_nil) (fun _ _ _ _ _ => (de_callB (dc_min2 rfl) T.z_min boot_min_ (da_cons (de_count (de_var 0) (de_var 3)) (da_cons (de_count (de_var 1) (de_var 3)) da_nil))))) da_nil)))))
theorem ok_law (T : Txt K mg c) : FnD P w K mg base CX0 10 T.f_law T.d_law ["_law_script"] (Fn.g_k18_law) := by
  rw [Fn.e_k18_law]
  exact fn_ok (N := ["_law_script", "_law_h", "_law_letters_here", "_law_scale_here", "_law_one", "_law_other", "_law_due", "_law_left", "_law_sign", "_law_turn", "_law_likes"]) false T.F_law sc_law T.b_law fun cdv A outer s H E hr =>
    (dss_cons (ds_set 1 sc_law.nd (de_lst true (da_cons de_int (da_cons (de_callTy (dc_list true) T.z_list boot_list_ (da_cons (de_var 0) da_nil)) (da_cons de_int da_nil)))))
    (dss_cons (ds_set 2 sc_law.nd (de_call (ok_law_letters T) (hr.mono (by decide)) T.m_law_letters pass0 (da_cons (de_var 1) da_nil)))
    (dss_cons (ds_set 3 sc_law.nd (de_call (ok_law_scale T) (hr.mono (by decide)) T.m_law_scale pass0 (da_cons (de_var 1) da_nil)))
    (dss_cons (ds_set 4 sc_law.nd (de_call (ok_law_row T) (hr.mono (by decide)) T.m_law_row pass0 (da_cons (de_var 1) (da_cons (de_var 2) (da_cons de_int da_nil)))))
    (dss_cons (ds_set 5 sc_law.nd (de_ix (de_lst false (da_cons (de_call (ok_law_row T) (hr.mono (by decide)) T.m_law_row pass0 (da_cons (de_var 1) (da_cons (de_var 2) (da_cons de_int da_nil)))) (da_cons (de_call (ok_law_near T) (hr.mono (by decide)) T.m_law_near pass0 (da_cons (de_var 1) (da_cons (de_var 4) (da_cons (de_var 2) da_nil)))) (da_cons (de_rev (de_var 4)) da_nil)))) (de_call (ok_law_next T) (hr.mono (by decide)) T.m_law_next pass0 (da_cons (de_var 1) (da_cons de_int da_nil)))))
    (dss_cons (ds_set 6 sc_law.nd de_int)
    (dss_cons (ds_set 7 sc_law.nd (de_callTy (dc_chars true rfl) T.z_list boot_list_ (da_cons (de_var 5) da_nil)))
    (dss_cons (ds_for PassesOwn.never rfl (di_str (de_var 4)) (dg_name 8 sc_law.nd)
    (dss_one (ds_if (dt_cmp d2_in (de_var 8) (de_var 7))
    (dss_cons (ds_expr (de_remove (de_var 7) (de_var 8)))
    (dss_one (ds_set 6 sc_law.nd (de_op (d2_add false) (de_var 6) (de_ix (de_var 3) de_int)))))
    dss_nil)))
    (dss_cons (ds_if (DW.dt (dw_or (dt_not (dt_val (de_call (ok_law_same T 8) (hr.mono (by decide)) T.m_law_same pass0 (da_cons (de_call (ok_bound T) (hr.mono (by decide)) T.m_bound pass0 (da_cons (de_var 4) (da_cons (de_var 5) (da_cons (de_var 3) da_nil)))) (da_cons (de_var 6) da_nil))))) (dw_or1 (dt_cmp (d2_ne hr.units) (de_call (ok_bound T) (hr.mono (by decide)) T.m_bound pass0 (da_cons (de_var 5) (da_cons (de_var 4) (da_cons (de_var 3) da_nil)))) (de_var 6)))))
    (dss_one (ds_ret de_bl))
    dss_nil)
    (dss_cons (ds_if (DW.dt (dw_or (dt_cmp (d2_ne hr.units) (de_call (ok_bound T) (hr.mono (by decide)) T.m_bound pass0 (da_cons (de_var 4) (da_cons (de_str []) (da_cons (de_var 3) da_nil)))) de_int) (dw_or1 (dt_cmp (d2_ne hr.units) (de_call (ok_bound T) (hr.mono (by decide)) T.m_bound pass0 (da_cons (de_var 4) (da_cons (de_var 4) (da_cons (de_var 3) da_nil)))) (de_op d2_mul (de_ix (de_var 3) de_int) (de_callB dc_len T.z_len boot_len_ (da_cons (de_var 4) da_nil)))))))
    (dss_one (ds_ret de_bl))
    dss_nil)
    (dss_cons (ds_for PassesOwn.never rfl (di_rng1 T.z_range (da_cons de_int da_nil)) (dg_name 9 sc_law.nd)
    (dss_cons (ds_set 10 sc_law.nd (de_call (ok_likes_of T) (hr.mono (by decide)) T.m_likes_of pass0 (da_cons (de_var 4) (da_cons (de_var 5) (da_cons (de_op d2_sub (de_call (ok_law_next T) (hr.mono (by decide)) T.m_law_next pass0 (da_cons (de_var 1) (da_cons de_int da_nil))) de_int) da_nil)))))
    (dss_one (ds_if (dt_cmp d2_gt (de_op d2_mul (de_ix (de_var 3) de_int) (de_count (de_var 10) (de_str [61]))) (de_var 6))
    (dss_one (ds_ret de_bl))
    dss_nil))))
    (dss_one (ds_ret de_bl)))))))))))))
end
/-- for every class address what the law tells is True -/
def LawTrue : Prop := ∀ (c : Fn.CC) (ns : List Int), ns.length ≤ 63 → ∃ μ', Fn.g_k18_law [.scr ns] [] = .ok (.bl true) μ'
def spAll (K : PySem.W.Frag) : Sp := fun vs H Q E => ∃ (a : Addr) (ns : List Int), vs = [.ref a] ∧ ns.length ≤ 63 ∧ Only H ∧ SqL K H a (ns.map V.int) ∧ (∀ v H', v = .bl true → Q v H')
theorem all_mk (hlaw : LawTrue) {l : PySem.W.OpenLaw} {w : World} {K : PySem.W.Frag} {h : Heap} {mg : Str → Option Value} {fa f1 f2 f3 f4 f5 f6 f7 f8 f9 f10 : Addr} {t_LIKE t_UNLIKE : Tok} (X : K.In h) (G : h.Ns mainGlobals mg) (hfa : mg "law" = some (.ref fa))
    {od1 an1 : Option Addr} {sl1 : Array (Option Value)} {oc1 kV1 dc1 pm1 cd1 ct1 : Value}
    {od2 an2 : Option Addr} {sl2 : Array (Option Value)} {oc2 kV2 dc2 pm2 cd2 ct2 : Value}
    {od3 an3 : Option Addr} {sl3 : Array (Option Value)} {oc3 kV3 dc3 pm3 cd3 ct3 : Value}
    {od4 an4 : Option Addr} {sl4 : Array (Option Value)} {oc4 kV4 dc4 pm4 cd4 ct4 : Value}
    {od5 an5 : Option Addr} {sl5 : Array (Option Value)} {oc5 kV5 dc5 pm5 cd5 ct5 : Value}
    {od6 an6 : Option Addr} {sl6 : Array (Option Value)} {oc6 kV6 dc6 pm6 cd6 ct6 : Value}
    {od7 an7 : Option Addr} {sl7 : Array (Option Value)} {oc7 kV7 dc7 pm7 cd7 ct7 : Value}
    {od8 an8 : Option Addr} {sl8 : Array (Option Value)} {oc8 kV8 dc8 pm8 cd8 ct8 : Value}
    {od9 an9 : Option Addr} {sl9 : Array (Option Value)} {oc9 kV9 dc9 pm9 cd9 ct9 : Value}
    {od10 an10 : Option Addr} {sl10 : Array (Option Value)} {oc10 kV10 dc10 pm10 cd10 ct10 : Value}
    (a1 : PySem.W.nsIn K mainGlobals "_law_next" = some (some (.ref f1)))
    (l1 : K.lookup f1 = some ⟨oc1, od1, .func (PySem.W.fnOf "_law_next" "_law_next" (defArgs s_law_next) (defBody s_law_next) (defScope s_law_next) .none kV1 dc1 pm1 an1 cd1 ct1), sl1⟩)
    (c1 : PySem.W.codeIn K cd1 "_law_next" = true)
    (k1 : PySem.W.keepIn K (.ref f1) = true)
    (a2 : PySem.W.nsIn K mainGlobals "_law_letters" = some (some (.ref f2)))
    (l2 : K.lookup f2 = some ⟨oc2, od2, .func (PySem.W.fnOf "_law_letters" "_law_letters" (defArgs s_law_letters) (defBody s_law_letters) (defScope s_law_letters) .none kV2 dc2 pm2 an2 cd2 ct2), sl2⟩)
    (c2 : PySem.W.codeIn K cd2 "_law_letters" = true)
    (k2 : PySem.W.keepIn K (.ref f2) = true)
    (a3 : PySem.W.nsIn K mainGlobals "_law_scale" = some (some (.ref f3)))
    (l3 : K.lookup f3 = some ⟨oc3, od3, .func (PySem.W.fnOf "_law_scale" "_law_scale" (defArgs s_law_scale) (defBody s_law_scale) (defScope s_law_scale) .none kV3 dc3 pm3 an3 cd3 ct3), sl3⟩)
    (c3 : PySem.W.codeIn K cd3 "_law_scale" = true)
    (k3 : PySem.W.keepIn K (.ref f3) = true)
    (a4 : PySem.W.nsIn K mainGlobals "_law_row" = some (some (.ref f4)))
    (l4 : K.lookup f4 = some ⟨oc4, od4, .func (PySem.W.fnOf "_law_row" "_law_row" (defArgs s_law_row) (defBody s_law_row) (defScope s_law_row) .none kV4 dc4 pm4 an4 cd4 ct4), sl4⟩)
    (c4 : PySem.W.codeIn K cd4 "_law_row" = true)
    (k4 : PySem.W.keepIn K (.ref f4) = true)
    (a5 : PySem.W.nsIn K mainGlobals "lane_bounds" = some (some (.ref f5)))
    (l5 : K.lookup f5 = some ⟨oc5, od5, .func (PySem.W.fnOf "lane_bounds" "lane_bounds" (defArgs s_lane_bounds) (defBody s_lane_bounds) (defScope s_lane_bounds) .none kV5 dc5 pm5 an5 cd5 ct5), sl5⟩)
    (c5 : PySem.W.codeIn K cd5 "lane_bounds" = true)
    (k5 : PySem.W.keepIn K (.ref f5) = true)
    (a6 : PySem.W.nsIn K mainGlobals "likes_of" = some (some (.ref f6)))
    (l6 : K.lookup f6 = some ⟨oc6, od6, .func (PySem.W.fnOf "likes_of" "likes_of" (defArgs s_likes_of) (defBody s_likes_of) (defScope s_likes_of) .none kV6 dc6 pm6 an6 cd6 ct6), sl6⟩)
    (c6 : PySem.W.codeIn K cd6 "likes_of" = true)
    (k6 : PySem.W.keepIn K (.ref f6) = true)
    (a7 : PySem.W.nsIn K mainGlobals "_law_near" = some (some (.ref f7)))
    (l7 : K.lookup f7 = some ⟨oc7, od7, .func (PySem.W.fnOf "_law_near" "_law_near" (defArgs s_law_near) (defBody s_law_near) (defScope s_law_near) .none kV7 dc7 pm7 an7 cd7 ct7), sl7⟩)
    (c7 : PySem.W.codeIn K cd7 "_law_near" = true)
    (k7 : PySem.W.keepIn K (.ref f7) = true)
    (a8 : PySem.W.nsIn K mainGlobals "_law_same" = some (some (.ref f8)))
    (l8 : K.lookup f8 = some ⟨oc8, od8, .func (PySem.W.fnOf "_law_same" "_law_same" (defArgs s_law_same) (defBody s_law_same) (defScope s_law_same) .none kV8 dc8 pm8 an8 cd8 ct8), sl8⟩)
    (c8 : PySem.W.codeIn K cd8 "_law_same" = true)
    (k8 : PySem.W.keepIn K (.ref f8) = true)
    (a9 : PySem.W.nsIn K mainGlobals "bound" = some (some (.ref f9)))
    (l9 : K.lookup f9 = some ⟨oc9, od9, .func (PySem.W.fnOf "bound" "bound" (defArgs s_bound) (defBody s_bound) (defScope s_bound) .none kV9 dc9 pm9 an9 cd9 ct9), sl9⟩)
    (c9 : PySem.W.codeIn K cd9 "bound" = true)
    (k9 : PySem.W.keepIn K (.ref f9) = true)
    (a10 : PySem.W.nsIn K mainGlobals "law" = some (some (.ref f10)))
    (l10 : K.lookup f10 = some ⟨oc10, od10, .func (PySem.W.fnOf "law" "law" (defArgs s_law) (defBody s_law) (defScope s_law) .none kV10 dc10 pm10 an10 cd10 ct10), sl10⟩)
    (c10 : PySem.W.codeIn K cd10 "law" = true)
    (k10 : PySem.W.keepIn K (.ref f10) = true)
    (z_bool : PySem.W.nsIn K mainGlobals "bool" = some none)
    (z_int : PySem.W.nsIn K mainGlobals "int" = some none)
    (z_isinstance : PySem.W.nsIn K mainGlobals "isinstance" = some none)
    (z_len : PySem.W.nsIn K mainGlobals "len" = some none)
    (z_list : PySem.W.nsIn K mainGlobals "list" = some none)
    (z_max : PySem.W.nsIn K mainGlobals "max" = some none)
    (z_min : PySem.W.nsIn K mainGlobals "min" = some none)
    (z_range : PySem.W.nsIn K mainGlobals "range" = some none)
    (z_set : PySem.W.nsIn K mainGlobals "set" = some none)
    (z_sorted : PySem.W.nsIn K mainGlobals "sorted" = some none)
    (z_str : PySem.W.nsIn K mainGlobals "str" = some none)
    (z_sum : PySem.W.nsIn K mainGlobals "sum" = some none)
    (z_tuple : PySem.W.nsIn K mainGlobals "tuple" = some none)
    (q_LIKE : PySem.W.nsIn K mainGlobals "LIKE" = some (some (.str "=" t_LIKE)))
    (q_UNLIKE : PySem.W.nsIn K mainGlobals "UNLIKE" = some (some (.str "/" t_UNLIKE))) :
    ∃ fd : FuncData, (∀ (s : Shared) (v : Value), BindsTo s fd ⟨[v], []⟩ [("_law_script", v)]) ∧ ∀ base : Heap, K.In base → base.Ns mainGlobals mg → FnOk l.prog w K mg base CX0 10 fa fd ["_law_script"] (spAll K) := by
  have e : f10 = fa := Value.ref.inj (Option.some.inj ((PySem.W.mg_of X G a10).symm.trans hfa))
  subst e
  let T : Txt K mg ({  } : Fn.CC) := {
    f_law_next := f1,
    d_law_next := PySem.W.fnOf "_law_next" "_law_next" (defArgs s_law_next) (defBody s_law_next) (defScope s_law_next) .none kV1 dc1 pm1 an1 cd1 ct1,
    F_law_next := fun_mk (st := s_law_next) l1 c1 k1,
    b_law_next := (fun_mk (st := s_law_next) l1 c1 k1).binds (ps := ["_law_h", "_law_many"]) fun _ _ _ _ _ _ us hl => match us, hl with | [_, _], _ => rfl,
    m_law_next := PySem.W.mg_of X G a1,
    f_law_letters := f2,
    d_law_letters := PySem.W.fnOf "_law_letters" "_law_letters" (defArgs s_law_letters) (defBody s_law_letters) (defScope s_law_letters) .none kV2 dc2 pm2 an2 cd2 ct2,
    F_law_letters := fun_mk (st := s_law_letters) l2 c2 k2,
    b_law_letters := (fun_mk (st := s_law_letters) l2 c2 k2).binds (ps := ["_law_h"]) fun _ _ _ _ _ _ us hl => match us, hl with | [_], _ => rfl,
    m_law_letters := PySem.W.mg_of X G a2,
    f_law_scale := f3,
    d_law_scale := PySem.W.fnOf "_law_scale" "_law_scale" (defArgs s_law_scale) (defBody s_law_scale) (defScope s_law_scale) .none kV3 dc3 pm3 an3 cd3 ct3,
    F_law_scale := fun_mk (st := s_law_scale) l3 c3 k3,
    b_law_scale := (fun_mk (st := s_law_scale) l3 c3 k3).binds (ps := ["_law_h"]) fun _ _ _ _ _ _ us hl => match us, hl with | [_], _ => rfl,
    m_law_scale := PySem.W.mg_of X G a3,
    f_law_row := f4,
    d_law_row := PySem.W.fnOf "_law_row" "_law_row" (defArgs s_law_row) (defBody s_law_row) (defScope s_law_row) .none kV4 dc4 pm4 an4 cd4 ct4,
    F_law_row := fun_mk (st := s_law_row) l4 c4 k4,
    b_law_row := (fun_mk (st := s_law_row) l4 c4 k4).binds (ps := ["_law_h", "_law_letters_here", "_law_most"]) fun _ _ _ _ _ _ us hl => match us, hl with | [_, _, _], _ => rfl,
    m_law_row := PySem.W.mg_of X G a4,
    f_lane_bounds := f5,
    d_lane_bounds := PySem.W.fnOf "lane_bounds" "lane_bounds" (defArgs s_lane_bounds) (defBody s_lane_bounds) (defScope s_lane_bounds) .none kV5 dc5 pm5 an5 cd5 ct5,
    F_lane_bounds := fun_mk (st := s_lane_bounds) l5 c5 k5,
    b_lane_bounds := (fun_mk (st := s_lane_bounds) l5 c5 k5).binds (ps := ["one", "other", "shift"]) fun _ _ _ _ _ _ us hl => match us, hl with | [_, _, _], _ => rfl,
    m_lane_bounds := PySem.W.mg_of X G a5,
    f_likes_of := f6,
    d_likes_of := PySem.W.fnOf "likes_of" "likes_of" (defArgs s_likes_of) (defBody s_likes_of) (defScope s_likes_of) .none kV6 dc6 pm6 an6 cd6 ct6,
    F_likes_of := fun_mk (st := s_likes_of) l6 c6 k6,
    b_likes_of := (fun_mk (st := s_likes_of) l6 c6 k6).binds (ps := ["one", "other", "shift"]) fun _ _ _ _ _ _ us hl => match us, hl with | [_, _, _], _ => rfl,
    m_likes_of := PySem.W.mg_of X G a6,
    f_law_near := f7,
    d_law_near := PySem.W.fnOf "_law_near" "_law_near" (defArgs s_law_near) (defBody s_law_near) (defScope s_law_near) .none kV7 dc7 pm7 an7 cd7 ct7,
    F_law_near := fun_mk (st := s_law_near) l7 c7 k7,
    b_law_near := (fun_mk (st := s_law_near) l7 c7 k7).binds (ps := ["_law_h", "_law_row_here", "_law_letters_here"]) fun _ _ _ _ _ _ us hl => match us, hl with | [_, _, _], _ => rfl,
    m_law_near := PySem.W.mg_of X G a7,
    f_law_same := f8,
    d_law_same := PySem.W.fnOf "_law_same" "_law_same" (defArgs s_law_same) (defBody s_law_same) (defScope s_law_same) .none kV8 dc8 pm8 an8 cd8 ct8,
    F_law_same := fun_mk (st := s_law_same) l8 c8 k8,
    b_law_same := (fun_mk (st := s_law_same) l8 c8 k8).binds (ps := ["_law_found", "_law_due"]) fun _ _ _ _ _ _ us hl => match us, hl with | [_, _], _ => rfl,
    m_law_same := PySem.W.mg_of X G a8,
    f_bound := f9,
    d_bound := PySem.W.fnOf "bound" "bound" (defArgs s_bound) (defBody s_bound) (defScope s_bound) .none kV9 dc9 pm9 an9 cd9 ct9,
    F_bound := fun_mk (st := s_bound) l9 c9 k9,
    b_bound := (fun_mk (st := s_bound) l9 c9 k9).binds (ps := ["one", "other", "scale"]) fun _ _ _ _ _ _ us hl => match us, hl with | [_, _, _], _ => rfl,
    m_bound := PySem.W.mg_of X G a9,
    f_law := f10,
    d_law := PySem.W.fnOf "law" "law" (defArgs s_law) (defBody s_law) (defScope s_law) .none kV10 dc10 pm10 an10 cd10 ct10,
    F_law := fun_mk (st := s_law) l10 c10 k10,
    b_law := (fun_mk (st := s_law) l10 c10 k10).binds (ps := ["_law_script"]) fun _ _ _ _ _ _ us hl => match us, hl with | [_], _ => rfl,
    m_law := PySem.W.mg_of X G a10,
    z_bool := PySem.W.mg_none_of X G z_bool,
    z_int := PySem.W.mg_none_of X G z_int,
    z_isinstance := PySem.W.mg_none_of X G z_isinstance,
    z_len := PySem.W.mg_none_of X G z_len,
    z_list := PySem.W.mg_none_of X G z_list,
    z_max := PySem.W.mg_none_of X G z_max,
    z_min := PySem.W.mg_none_of X G z_min,
    z_range := PySem.W.mg_none_of X G z_range,
    z_set := PySem.W.mg_none_of X G z_set,
    z_sorted := PySem.W.mg_none_of X G z_sorted,
    z_str := PySem.W.mg_none_of X G z_str,
    z_sum := PySem.W.mg_none_of X G z_sum,
    z_tuple := PySem.W.mg_none_of X G z_tuple,
    t_LIKE := t_LIKE,
    m_LIKE := PySem.W.mg_of X G q_LIKE,
    t_UNLIKE := t_UNLIKE,
    m_UNLIKE := PySem.W.mg_of X G q_UNLIKE }
  refine ⟨T.d_law, fun s v => .of_eq rfl, fun base _ _ => ((ok_law T).ok).imp fun vs H Q E hq => ?_⟩
  obtain ⟨a, ns, rfl, hl, hO, hS, hQ⟩ := hq
  exact law_end hO hS (hlaw {  } ns hl) hQ
theorem walk (hlaw : LawTrue) {l : PySem.W.OpenLaw} {q : Program} {loose : List Str} {XP : (Str → Option Value) → Heap → Prop} {YP : World → Heap → Prop} {d : DefRec} {K : Params → PySem.W.Frag} (hn : l.most = some 63) (hdf : d.params.defaults = [])
    (hY : ∀ (w : World) (h : Heap), YP w h → (K w.params).In h)
    (F : ∀ (w : World) (mg : Str → Option Value) (fa : Addr) (h : Heap), (K w.params).In h → h.Ns mainGlobals mg → mg d.name = some (.ref fa) →
      ∃ fd : FuncData, (∀ (s : Shared) (u : Value), BindsTo s fd ⟨[u], []⟩ [("_law_script", u)]) ∧ ∀ base : Heap, (K w.params).In base → base.Ns mainGlobals mg → FnOk l.prog w (K w.params) mg base CX0 10 fa fd ["_law_script"] (spAll (K w.params))) :
    PySem.W.WalkO q loose XP YP l.row.toRowW d [] (fun f vs => PySem.call f vs) :=
  L2.walk_of (n := 63) (k := 10) (x := "_law_script") (CX := fun _ => CX0) (sp := fun w => spAll (K w.params)) hn (by decide) hdf ⟨rfl, by decide, by decide⟩ hY F (fun _ H a ns hl hO hS => ⟨a, ns, rfl, hl, hO, hS, fun _ _ h => h⟩) fun _ _ _ _ _ z => z
end Law


open PySem PySem.W PyProof.Rows in
set_option maxRecDepth 100000 in
set_option maxHeartbeats 0 in
theorem PySem.Challenge.cw_seedreach_k18_bound_of_two_rows_holds : PySem.Challenge.rw_seedreach_k18_bound_of_two_rows.Holds := by
  w_on; o_law; k_head; (case hw => w_witness2)
  k_fill
  refine Law.walk Law.law_true (l := PySem.Challenge.rw_seedreach_k18_bound_of_two_rows) rfl rfl (fun w h Y => PySem.W.kIn_of Y) ?F
  case F =>
    intro w mg fa h KX G hmg
    refine' Law.all_mk Law.law_true KX G hmg ?a1 ?l1 ?c1 ?k1 ?a2 ?l2 ?c2 ?k2 ?a3 ?l3 ?c3 ?k3 ?a4 ?l4 ?c4 ?k4 ?a5 ?l5 ?c5 ?k5 ?a6 ?l6 ?c6 ?k6 ?a7 ?l7 ?c7 ?k7 ?a8 ?l8 ?c8 ?k8 ?a9 ?l9 ?c9 ?k9 ?a10 ?l10 ?c10 ?k10 ?z_bool ?z_int ?z_isinstance ?z_len ?z_list ?z_max ?z_min ?z_range ?z_set ?z_sorted ?z_str ?z_sum ?z_tuple ?q_LIKE ?q_UNLIKE
    (case a1 => k_is)
    (case l1 => k_is)
    (case c1 => k_is)
    (case k1 => k_is)
    (case a2 => k_is)
    (case l2 => k_is)
    (case c2 => k_is)
    (case k2 => k_is)
    (case a3 => k_is)
    (case l3 => k_is)
    (case c3 => k_is)
    (case k3 => k_is)
    (case a4 => k_is)
    (case l4 => k_is)
    (case c4 => k_is)
    (case k4 => k_is)
    (case a5 => k_is)
    (case l5 => k_is)
    (case c5 => k_is)
    (case k5 => k_is)
    (case a6 => k_is)
    (case l6 => k_is)
    (case c6 => k_is)
    (case k6 => k_is)
    (case a7 => k_is)
    (case l7 => k_is)
    (case c7 => k_is)
    (case k7 => k_is)
    (case a8 => k_is)
    (case l8 => k_is)
    (case c8 => k_is)
    (case k8 => k_is)
    (case a9 => k_is)
    (case l9 => k_is)
    (case c9 => k_is)
    (case k9 => k_is)
    (case a10 => k_is)
    (case l10 => k_is)
    (case c10 => k_is)
    (case k10 => k_is)
    (case z_bool => k_is)
    (case z_int => k_is)
    (case z_isinstance => k_is)
    (case z_len => k_is)
    (case z_list => k_is)
    (case z_max => k_is)
    (case z_min => k_is)
    (case z_range => k_is)
    (case z_set => k_is)
    (case z_sorted => k_is)
    (case z_str => k_is)
    (case z_sum => k_is)
    (case z_tuple => k_is)
    (case q_LIKE => k_is)
    (case q_UNLIKE => k_is)
