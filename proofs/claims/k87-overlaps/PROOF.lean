import PyProof.Rows.All
import HandS.ForMost
import HandS.Exc
import HandS.WordsExc
import HandS.Flow
import HandS.Zip
import HandS.Rev
import HandS.RevRange
import HandS.TupAny
import KE.SortData
import KE.DataMinMax
import KE.DataIsa
import KE.DataCmp
import KE.DataFind
import KE.GoesEnum
import PyProof.ReprReads
import HandS.Style
import HandS.RaiseMore
import PyProof.ListStr
import PyProof.FitsInt
import HandS.WideBits
import HandS.IsInst
import PyProof.ReprRoads
import PyProof.CallFns
import HandS.Deep
import HandS.StrMore
import HandS.Replace
import PyProof.StrBlockL
import HandS.Ends
import HandS.Dict
import PySem.Challenge.RW_spelledonce_k87_whole_overlaps_kept
import PyProof.NoPylong
import PyProof.StrLawsRepr
import PyProof.ReprText
set_option Elab.async false
set_option linter.all false
set_option maxRecDepth 100000
/-! DL: a functional reading of pure Python over the hand layer: data, owned lists, environments; the judgement DE. -/
namespace DL
open PySem PySem.Spec PyProof.Rows L2

abbrev D := PyData
/-- what a slot holds: shared data, a list that this frame may change (b: lent by the caller), a def of the text -/
inductive SV where
  | sh (d : D)
  | ow (b : Bool) (ds : List D)
  | fn (x : Str)
  | sc (ns : List Int)
abbrev Env := List (Option SV)
/-- what an expression gives: shared data, a new list, the list of slot i, a def -/
inductive EV where
  | sh (d : D)
  | fr (ds : List D)
  | bo (i : Nat)
  | fn (x : Str)
  | sc (ns : List Int)
inductive Out (α : Type) where
  | ok (a : α) (ρ : Env)
  | exc (c : Str) (fs : List (Str × D)) (ρ : Env)
  | stuck
def Out.bind {α β : Type} (o : Out α) (g : α → Env → Out β) : Out β :=
  match o with
  | .ok a ρ => g a ρ
  | .exc c fs ρ => .exc c fs ρ
  | .stuck => .stuck
@[simp] theorem Out.bind_ok {α β : Type} (a : α) (ρ : Env) (g : α → Env → Out β) : (Out.ok a ρ).bind g = g a ρ := rfl
@[simp] theorem Out.bind_exc {α β : Type} (c : Str) (fs : List (Str × D)) (ρ : Env) (g : α → Env → Out β) : (Out.exc c fs ρ).bind g = .exc c fs ρ := rfl
@[simp] theorem Out.bind_stuck {α β : Type} (g : α → Env → Out β) : (Out.stuck).bind g = .stuck := rfl

def SV.own : SV → Bool
  | .ow _ _ => true
  | _ => false
def SV.lent : SV → Bool
  | .ow true _ => true
  | _ => false
theorem SV.own_of_lent {sv : SV} (h : sv.lent = true) : sv.own = true := by
  cases sv with
  | ow b ds => rfl
  | _ => cases h

/-- a list of the module's own -/
def KL (K : PySem.W.Frag) (a : Addr) (xs : List V) : Prop :=
  ∃ (o : Obj) (its : Array Value) (n : Nat), K.lookup a = some o ∧ o.cls = .type "list" ∧ o.dict = none ∧ o.data = .seq its n ∧ its.size ≤ sizeLine ∧ Vals xs its.toList
theorem sql_iff {K : PySem.W.Frag} {H : Hp} {a : Addr} {xs : List V} : SqL K H a xs ↔ (Rd H a (.lst xs) ∨ KL K a xs) := Iff.rfl
section
variable (K : PySem.W.Frag) (H : Hp) (M : Addr → Prop)
mutual
/-- the value v stands for the data d, which nothing changes: its lists lie outside M -/
def Rep : D → V → Prop
  | .none, v => v = .non
  | .bool b, v => v = .bl b
  | .int i, v => v = .int i
  | .str x, v => v = .str x ∧ x.length ≤ sizeLine
  | .tuple ds, v => ∃ a xs, v = .ref a ∧ SqT K H a xs ∧ Reps ds xs
  | .list ds, v => ∃ a xs, v = .ref a ∧ H a = some (.lst xs) ∧ ¬ M a ∧ Reps ds xs
  | .dict _, _ => False
def Reps : List D → List V → Prop
  | [], xs => xs = []
  | d :: ds, xs => ∃ x r, xs = x :: r ∧ Rep d x ∧ Reps ds r
end
/-- the same, its own list perhaps in M -/
def RepT : D → V → Prop
  | .list ds, v => ∃ a xs, v = .ref a ∧ H a = some (.lst xs) ∧ Reps K H M ds xs
  | d, v => Rep K H M d v
/-- the same, its own list perhaps the script -/
def RepS : D → V → Prop
  | .list ds, v => ∃ a xs, v = .ref a ∧ SqL K H a xs ∧ Reps K H M ds xs
  | d, v => Rep K H M d v
end

theorem Reps.length {K : PySem.W.Frag} {H : Hp} {M : Addr → Prop} : ∀ {ds : List D} {xs : List V}, Reps K H M ds xs → xs.length = ds.length
  | [], xs, h => by
    have h : xs = [] := by simpa [Reps] using h
    subst h; rfl
  | d :: ds, xs, h => by
    obtain ⟨x, r, e, _, t⟩ := (by simpa only [Reps] using h : ∃ x r, xs = x :: r ∧ Rep K H M d x ∧ Reps K H M ds r)
    subst e
    simp [Reps.length t]
theorem reps_nil {K : PySem.W.Frag} {H : Hp} {M : Addr → Prop} : Reps K H M [] [] := by simp [Reps]
theorem reps_cons {K : PySem.W.Frag} {H : Hp} {M : Addr → Prop} {d : D} {ds : List D} {x : V} {xs : List V} (h : Rep K H M d x) (t : Reps K H M ds xs) : Reps K H M (d :: ds) (x :: xs) := by
  simp only [Reps]; exact ⟨x, xs, rfl, h, t⟩
theorem reps_inv {K : PySem.W.Frag} {H : Hp} {M : Addr → Prop} {d : D} {ds : List D} {xs : List V} (h : Reps K H M (d :: ds) xs) : ∃ x r, xs = x :: r ∧ Rep K H M d x ∧ Reps K H M ds r := by
  simpa only [Reps] using h
theorem reps_nil_inv {K : PySem.W.Frag} {H : Hp} {M : Addr → Prop} {xs : List V} (h : Reps K H M [] xs) : xs = [] := by simpa [Reps] using h
theorem Reps.append {K : PySem.W.Frag} {H : Hp} {M : Addr → Prop} : ∀ {ds es : List D} {xs ys : List V}, Reps K H M ds xs → Reps K H M es ys → Reps K H M (ds ++ es) (xs ++ ys)
  | [], _, _, _, h, h' => by rw [reps_nil_inv h]; exact h'
  | _ :: _, _, _, _, h, h' => by
    obtain ⟨x, r, e, hx, t⟩ := reps_inv h
    subst e
    exact reps_cons hx (Reps.append t h')
theorem Reps.get {K : PySem.W.Frag} {H : Hp} {M : Addr → Prop} : ∀ {ds : List D} {xs : List V} {i : Nat} {d : D}, Reps K H M ds xs → ds[i]? = some d → ∃ x, xs[i]? = some x ∧ Rep K H M d x
  | [], _, _, _, _, e => by simp at e
  | _ :: _, _, 0, _, h, e => by
    obtain ⟨x, r, e1, hx, _⟩ := reps_inv h
    simp at e; subst e; subst e1
    exact ⟨x, rfl, hx⟩
  | _ :: _, _, i + 1, _, h, e => by
    obtain ⟨x, r, e1, _, t⟩ := reps_inv h
    subst e1
    obtain ⟨y, e2, hy⟩ := Reps.get (i := i) t (by simpa using e)
    exact ⟨y, by simpa using e2, hy⟩
theorem Reps.get' {K : PySem.W.Frag} {H : Hp} {M : Addr → Prop} {ds : List D} {xs : List V} {i : Nat} {x : V} (h : Reps K H M ds xs) (e : xs[i]? = some x) : ∃ d, ds[i]? = some d ∧ Rep K H M d x := by
  have hl := h.length
  obtain ⟨hi, _⟩ := List.getElem?_eq_some_iff.mp e
  have hd : ds[i]? = some ds[i] := List.getElem?_eq_getElem (by omega)
  obtain ⟨y, e2, hy⟩ := h.get hd
  rw [e] at e2; cases e2
  exact ⟨_, hd, hy⟩
theorem Reps.take {K : PySem.W.Frag} {H : Hp} {M : Addr → Prop} : ∀ {ds : List D} {xs : List V} (n : Nat), Reps K H M ds xs → Reps K H M (ds.take n) (xs.take n)
  | [], _, n, h => by rw [reps_nil_inv h]; simp [Reps]
  | _ :: _, _, 0, _ => by simp [Reps]
  | _ :: _, _, n + 1, h => by
    obtain ⟨x, r, e1, hx, t⟩ := reps_inv h
    subst e1
    exact reps_cons hx (Reps.take n t)
theorem Reps.drop {K : PySem.W.Frag} {H : Hp} {M : Addr → Prop} : ∀ {ds : List D} {xs : List V} (n : Nat), Reps K H M ds xs → Reps K H M (ds.drop n) (xs.drop n)
  | [], _, n, h => by rw [reps_nil_inv h]; simp [Reps]
  | _ :: _, _, 0, h => h
  | _ :: _, _, n + 1, h => by
    obtain ⟨x, r, e1, _, t⟩ := reps_inv h
    subst e1
    exact Reps.drop n t
theorem Reps.set {K : PySem.W.Frag} {H : Hp} {M : Addr → Prop} {d : D} {x : V} (r : Rep K H M d x) : ∀ {ds : List D} {xs : List V} (n : Nat), Reps K H M ds xs → Reps K H M (ds.set n d) (xs.set n x)
  | [], _, n, h => by rw [reps_nil_inv h]; simp [Reps]
  | _ :: _, _, 0, h => by
    obtain ⟨x', r', e1, _, t⟩ := reps_inv h
    subst e1
    exact reps_cons r t
  | _ :: _, _, n + 1, h => by
    obtain ⟨x', r', e1, hx, t⟩ := reps_inv h
    subst e1
    exact reps_cons hx (Reps.set r n t)
theorem Reps.reverse {K : PySem.W.Frag} {H : Hp} {M : Addr → Prop} : ∀ {ds : List D} {xs : List V}, Reps K H M ds xs → Reps K H M ds.reverse xs.reverse
  | [], _, h => by rw [reps_nil_inv h]; simp [Reps]
  | _ :: _, _, h => by
    obtain ⟨x', r', e1, hx, t⟩ := reps_inv h
    subst e1
    rw [List.reverse_cons, List.reverse_cons]
    exact (Reps.reverse t).append (reps_cons hx reps_nil)

section
variable {K : PySem.W.Frag} {H H' : Hp} {M M' : Addr → Prop}
mutual
theorem Rep.move (ht : ∀ a xs, Rd H a (.tup xs) → Rd H' a (.tup xs)) (hl : ∀ a xs, H a = some (.lst xs) → ¬ M a → H' a = some (.lst xs) ∧ ¬ M' a) : ∀ (d : D) {v : V}, Rep K H M d v → Rep K H' M' d v
  | .none, v, h => by simpa only [Rep] using h
  | .bool _, v, h => by simpa only [Rep] using h
  | .int _, v, h => by simpa only [Rep] using h
  | .str _, v, h => by simpa only [Rep] using h
  | .tuple ds, v, h => by
    simp only [Rep] at h ⊢
    obtain ⟨a, xs, e, t, r⟩ := h
    refine ⟨a, xs, e, ?_, Reps.move ht hl ds r⟩
    rcases t with t | t
    · exact .inl (ht a xs t)
    · exact .inr t
  | .list ds, v, h => by
    simp only [Rep] at h ⊢
    obtain ⟨a, xs, e, t, n, r⟩ := h
    exact ⟨a, xs, e, (hl a xs t n).1, (hl a xs t n).2, Reps.move ht hl ds r⟩
  | .dict _, v, h => by simp only [Rep] at h
theorem Reps.move (ht : ∀ a xs, Rd H a (.tup xs) → Rd H' a (.tup xs)) (hl : ∀ a xs, H a = some (.lst xs) → ¬ M a → H' a = some (.lst xs) ∧ ¬ M' a) : ∀ (ds : List D) {xs : List V}, Reps K H M ds xs → Reps K H' M' ds xs
  | [], xs, h => by simpa only [Reps] using h
  | d :: ds, xs, h => by
    obtain ⟨x, r, e, hx, t⟩ := reps_inv h
    subst e
    exact reps_cons (Rep.move ht hl d hx) (Reps.move ht hl ds t)
end
theorem Rep.top {d : D} {v : V} (h : Rep K H M d v) : RepT K H M d v := by
  cases d with
  | list ds =>
    simp only [Rep] at h
    obtain ⟨a, xs, e, t, _, r⟩ := h
    exact ⟨a, xs, e, t, r⟩
  | _ => exact h
theorem RepT.s {d : D} {v : V} (h : RepT K H M d v) : RepS K H M d v := by
  cases d with
  | list ds =>
    obtain ⟨a, xs, e, t, r⟩ := h
    exact ⟨a, xs, e, .of t, r⟩
  | _ => exact h
end

/-- the script -/
def ScR (K : PySem.W.Frag) (H : Hp) (ns : List Int) (u : V) : Prop := ∃ a, u = .ref a ∧ ((∃ o, H a = some (.frz o (.lst (ns.map V.int)))) ∨ KL K a (ns.map V.int))
theorem ScR.sql {K : PySem.W.Frag} {H : Hp} {ns : List Int} {u : V} (h : ScR K H ns u) : ∃ a, u = .ref a ∧ SqL K H a (ns.map V.int) := by
  obtain ⟨a, e, h⟩ := h
  exact ⟨a, e, h.imp (fun z => .inr z) id⟩
/-- the state that the evaluator speaks of -/
structure Sg where
  M : Addr → Prop
  ρ : Env
  σ : L2.St
  H : Hp

/-- the address of an owned slot -/
def Sg.Own (s : Sg) (b : Addr) : Prop := ∃ (i : Nat) (sv : SV), s.ρ[i]? = some (some sv) ∧ sv.own = true ∧ s.σ[i]? = some (some (.ref b))

section
variable (K : PySem.W.Frag) (mg : Str → Option Value)
def SVR (s : Sg) : SV → V → Prop
  | .sh d, u => Rep K s.H s.M d u
  | .ow _ ds, u => ∃ a xs, u = .ref a ∧ s.H a = some (.lst xs) ∧ s.M a ∧ Reps K s.H s.M ds xs
  | .fn x, u => ∃ f, mg x = some (.ref f) ∧ u = .ref f
  | .sc ns, u => ScR K s.H ns u
structure ER (s : Sg) : Prop where
  len : s.ρ.length = s.σ.length
  slot : ∀ (i : Nat) (sv : SV), s.ρ[i]? = some (some sv) → ∃ u, s.σ[i]? = some (some u) ∧ SVR K mg s sv u
  inj : ∀ (i j : Nat) (p q : SV) (a : Addr), s.ρ[i]? = some (some p) → p.own = true → s.σ[i]? = some (some (.ref a)) → s.ρ[j]? = some (some q) → q.own = true → s.σ[j]? = some (some (.ref a)) → i = j
  live : ∀ b, s.M b → ∃ o, s.H b = some o
def EVR (s : Sg) : EV → V → Prop
  | .sh d, u => Rep K s.H s.M d u
  | .fr ds, u => ∃ a xs, u = .ref a ∧ s.H a = some (.lst xs) ∧ s.M a ∧ ¬ s.Own a ∧ Reps K s.H s.M ds xs
  | .bo i, u => s.σ[i]? = some (some u)
  | .fn x, u => ∃ f, mg x = some (.ref f) ∧ u = .ref f
  | .sc ns, u => ScR K s.H ns u
end
/-- a new list is new since H -/
def FreshV (H : Hp) : EV → V → Prop
  | .fr _, u => ∀ a, u = .ref a → H a = none
  | _, _ => True

structure Tr (s s' : Sg) : Prop where
  ext : ∀ b o, s.H b = some o → ¬ s.Own b → s'.H b = some o
  mt : ∀ b, s.Own b → ∃ xs, s'.H b = some (.lst xs)
  mnew : ∀ b, s'.M b → s.M b ∨ s.H b = none
  mold : ∀ b o, s.M b → s.H b = some o → ¬ s.Own b → s'.M b
  own : ∀ b, s'.Own b → s.Own b ∨ s.H b = none
  lent : ∀ (i : Nat) (sv : SV), s.ρ[i]? = some (some sv) → sv.lent = true → (∃ sv', s'.ρ[i]? = some (some sv') ∧ sv'.lent = true) ∧ s'.σ[i]? = s.σ[i]?
  ln : s'.ρ.length = s.ρ.length

section
variable {K : PySem.W.Frag} {mg : Str → Option Value} {s s' s1 s2 : Sg}
theorem ER.own_lst (E : ER K mg s) {b : Addr} (h : s.Own b) : s.M b ∧ ∃ xs, s.H b = some (.lst xs) := by
  obtain ⟨i, sv, e1, e2, e3⟩ := h
  obtain ⟨u, e4, r⟩ := E.slot i sv e1
  rw [e3] at e4; cases e4
  cases sv with
  | ow b' ds =>
    obtain ⟨a, xs, e, hh, hm, _⟩ := r
    cases e
    exact ⟨hm, xs, hh⟩
  | _ => cases e2
theorem Tr.refl (E : ER K mg s) : Tr s s where
  ext := fun b o h _ => h
  mt := fun b h => (E.own_lst h).2
  mnew := fun b h => .inl h
  mold := fun b _ h _ _ => h
  own := fun b h => .inl h
  lent := fun i sv h l => ⟨⟨sv, h, l⟩, rfl⟩
  ln := rfl
theorem Tr.none_back (t : Tr s s1) {b : Addr} (h : s1.H b = none) : s.H b = none := by
  cases q : s.H b with
  | none => rfl
  | some o =>
    by_cases hw : s.Own b
    · obtain ⟨xs, e⟩ := t.mt b hw
      rw [h] at e; cases e
    · have := t.ext b o q hw
      rw [h] at this; cases this
theorem Tr.trans (t : Tr s s1) (t2 : Tr s1 s2) : Tr s s2 where
  ext := fun b o h hw => by
    refine t2.ext b o (t.ext b o h hw) fun hw1 => ?_
    rcases t.own b hw1 with z | z
    · exact hw z
    · rw [z] at h; cases h
  mt := fun b h => by
    obtain ⟨xs, e⟩ := t.mt b h
    by_cases hw : s1.Own b
    · exact t2.mt b hw
    · exact ⟨xs, t2.ext b _ e hw⟩
  mnew := fun b h => by
    rcases t2.mnew b h with z | z
    · exact t.mnew b z
    · exact .inr (t.none_back z)
  mold := fun b o h ho hw => by
    refine t2.mold b o (t.mold b o h ho hw) (t.ext b o ho hw) fun hw1 => ?_
    rcases t.own b hw1 with z | z
    · exact hw z
    · rw [z] at ho; cases ho
  own := fun b h => by
    rcases t2.own b h with z | z
    · exact t.own b z
    · exact .inr (t.none_back z)
  lent := fun i sv h l => by
    obtain ⟨⟨sv1, e1, l1⟩, q1⟩ := t.lent i sv h l
    obtain ⟨e2, q2⟩ := t2.lent i sv1 e1 l1
    exact ⟨e2, q2.trans q1⟩
  ln := t2.ln.trans t.ln
end
end DL
namespace DL
open PySem PySem.Spec PyProof.Rows L2

section
variable {K : PySem.W.Frag} {mg : Str → Option Value} {s s0 s1 s2 : Sg}
theorem Rd.some_of {H : Hp} {a : Addr} {u : HO} (h : Rd H a u) : ∃ o, H a = some o := by
  rcases h with h | ⟨o, h⟩
  · exact ⟨_, h⟩
  · exact ⟨_, h⟩
theorem rd_ext (E : ER K mg s) (ext : ∀ b o, s.H b = some o → ¬ s.Own b → s1.H b = some o) {a : Addr} {u : HO} (hn : ¬ s.Own a) (h : Rd s.H a u) : Rd s1.H a u := by
  rcases h with h | ⟨o, h⟩
  · exact .inl (ext _ _ h hn)
  · exact .inr ⟨o, ext _ _ h hn⟩
theorem not_own_tup (E : ER K mg s) {a : Addr} {xs : List V} (h : Rd s.H a (.tup xs)) : ¬ s.Own a := fun w => by
  obtain ⟨_, ys, e⟩ := E.own_lst w
  rcases h with h | ⟨o, h⟩ <;> (rw [e] at h; cases h)
theorem move_t (E : ER K mg s) (t : Tr s s1) : ∀ a xs, Rd s.H a (.tup xs) → Rd s1.H a (.tup xs) := fun a xs h => rd_ext E t.ext (not_own_tup E h) h
theorem move_l (E : ER K mg s) (t : Tr s s1) : ∀ a xs, s.H a = some (.lst xs) → ¬ s.M a → s1.H a = some (.lst xs) ∧ ¬ s1.M a := fun a xs h n =>
  ⟨t.ext a _ h fun w => n (E.own_lst w).1, fun m => by
    rcases t.mnew a m with z | z
    · exact n z
    · rw [h] at z; cases z⟩
theorem ScR.tr (E : ER K mg s) (t : Tr s s1) {ns : List Int} {u : V} (h : ScR K s.H ns u) : ScR K s1.H ns u := by
  obtain ⟨a, e, h⟩ := h
  refine ⟨a, e, ?_⟩
  rcases h with ⟨o, h⟩ | h
  · refine .inl ⟨o, t.ext a _ h fun w => ?_⟩
    obtain ⟨_, ys, e2⟩ := E.own_lst w
    rw [h] at e2; cases e2
  · exact .inr h
theorem Rep.tr (E : ER K mg s) (t : Tr s s1) {d : D} {v : V} (h : Rep K s.H s.M d v) : Rep K s1.H s1.M d v := Rep.move (move_t E t) (move_l E t) d h
theorem Reps.tr (E : ER K mg s) (t : Tr s s1) {d : List D} {v : List V} (h : Reps K s.H s.M d v) : Reps K s1.H s1.M d v := Reps.move (move_t E t) (move_l E t) d h
theorem EVR.tr (E : ER K mg s) (t : Tr s s1) (hσ : s1.σ = s.σ) {v : EV} {u : V} (h : EVR K mg s v u) : EVR K mg s1 v u := by
  cases v with
  | sh d => exact Rep.tr E t h
  | fr ds =>
    obtain ⟨a, xs, e, hh, hm, hn, r⟩ := h
    refine ⟨a, xs, e, t.ext a _ hh hn, t.mold a _ hm hh hn, fun w => ?_, r.tr E t⟩
    rcases t.own a w with z | z
    · exact hn z
    · rw [hh] at z; cases z
  | bo i => exact (congrArg (fun z => z[i]?) hσ).trans h
  | fn x => exact h
  | sc ns => exact ScR.tr E t h
end

/-! ### the judgements -/
section
variable (X : Cx)
def wE (e : Expr) (σ : L2.St) (H : Hp) (Q : VK) : Prop := ∀ (pins : List (Addr × Obj)) (st : Shared), Inv X pins σ H st → wpAny (model X.prog X.w) X.A (eval e X.env) (EP X pins σ Q) X.xe st
def wT (e : Expr) (σ : L2.St) (H : Hp) (Q : Bool → Hp → Prop) : Prop := ∀ (pins : List (Addr × Obj)) (st : Shared), Inv X pins σ H st → wpAny (model X.prog X.w) X.A (isTrue e X.env (eval e X.env)) (TP X pins σ Q) X.xe st
def wW (e : Expr) (σ : L2.St) (H : Hp) (Q : Bool → Hp → Prop) : Prop := ∀ (whole : Sem Value) (pins : List (Addr × Obj)) (st : Shared), Inv X pins σ H st → wpAny (model X.prog X.w) X.A (isTrue e X.env whole) (TP X pins σ Q) X.xe st
def wA (es : List Expr) (σ : L2.St) (H : Hp) (Q : List V → Hp → Prop) : Prop := ∀ (pos : Pos) (pins : List (Addr × Obj)) (st : Shared), Inv X pins σ H st → wpAny (model X.prog X.w) X.A (spliced (backTo pos (starEach es X.env))) (AP X pins σ Q) X.xe st
def wS (c : Stmt) (D : Ends) (σ : L2.St) (H : Hp) : Prop := ∀ (pins : List (Addr × Obj)) (st : Shared), Inv X pins σ H st → wpAny (model X.prog X.w) X.A (exec c X.env) (SP X pins D) X.xe st
def wSs (c : List Stmt) (D : Ends) (σ : L2.St) (H : Hp) : Prop := ∀ (pins : List (Addr × Obj)) (st : Shared), Inv X pins σ H st → wpAny (model X.prog X.w) X.A (execs c X.env) (SP X pins D) X.xe st
end
section
variable {X : Cx}
theorem pe_w (e : Expr) : PE X e (wE X e) := ⟨fun pins s σ H Q I h => h pins s I⟩
theorem pt_w (e : Expr) : PT X e (wT X e) := ⟨fun pins s σ H Q I h => h pins s I⟩
theorem pw_w (e : Expr) : PW X e (wW X e) := ⟨fun w pins s σ H Q I h => h w pins s I⟩
theorem pa_w (e : List Expr) : PA X e (wA X e) := ⟨fun pos pins s σ H Q I h => h pos pins s I⟩
theorem ps_w (c : Stmt) : PS X c (wS X c) := ⟨fun pins s σ H D I h => h pins s I⟩
theorem pss_w (c : List Stmt) : PSs X c (wSs X c) := ⟨fun pins s σ H D I h => h pins s I⟩
theorem _root_.L2.PE.w {e : Expr} {t : TE} (h : PE X e t) {σ : L2.St} {H : Hp} {Q : VK} (q : t σ H Q) : wE X e σ H Q := fun pins s I => h.run pins s σ H Q I q
theorem _root_.L2.PT.w {e : Expr} {t : TT} (h : PT X e t) {σ : L2.St} {H : Hp} {Q : Bool → Hp → Prop} (q : t σ H Q) : wT X e σ H Q := fun pins s I => h.run pins s σ H Q I q
theorem _root_.L2.PW.w {e : Expr} {t : TT} (h : PW X e t) {σ : L2.St} {H : Hp} {Q : Bool → Hp → Prop} (q : t σ H Q) : wW X e σ H Q := fun wh pins s I => h.run wh pins s σ H Q I q
theorem _root_.L2.PA.w {e : List Expr} {t : TA} (h : PA X e t) {σ : L2.St} {H : Hp} {Q : List V → Hp → Prop} (q : t σ H Q) : wA X e σ H Q := fun pos pins s I => h.run pos pins s σ H Q I q
theorem _root_.L2.PS.w {c : Stmt} {t : TS} (h : PS X c t) {σ : L2.St} {H : Hp} {D : Ends} (q : t D σ H) : wS X c D σ H := fun pins s I => h.run pins s σ H D I q
theorem _root_.L2.PSs.w {c : List Stmt} {t : TS} (h : PSs X c t) {σ : L2.St} {H : Hp} {D : Ends} (q : t D σ H) : wSs X c D σ H := fun pins s I => h.run pins s σ H D I q
theorem wE.mono {e : Expr} {σ : L2.St} {H : Hp} {Q Q' : VK} (h : wE X e σ H Q) (q : ∀ v H', Q v H' → Q' v H') : wE X e σ H Q' := fun pins s I =>
  thn (h pins s I) fun u s' ⟨v, H', I', r, z⟩ => ⟨v, H', I', r, q v H' z⟩
theorem wT.mono {e : Expr} {σ : L2.St} {H : Hp} {Q Q' : Bool → Hp → Prop} (h : wT X e σ H Q) (q : ∀ v H', Q v H' → Q' v H') : wT X e σ H Q' := fun pins s I =>
  thn (h pins s I) fun u s' ⟨H', I', z⟩ => ⟨H', I', q u H' z⟩
theorem wW.mono {e : Expr} {σ : L2.St} {H : Hp} {Q Q' : Bool → Hp → Prop} (h : wW X e σ H Q) (q : ∀ v H', Q v H' → Q' v H') : wW X e σ H Q' := fun wh pins s I =>
  thn (h wh pins s I) fun u s' ⟨H', I', z⟩ => ⟨H', I', q u H' z⟩
theorem wA.mono {e : List Expr} {σ : L2.St} {H : Hp} {Q Q' : List V → Hp → Prop} (h : wA X e σ H Q) (q : ∀ v H', Q v H' → Q' v H') : wA X e σ H Q' := fun pos pins s I =>
  thn (h pos pins s I) fun u s' ⟨v, H', I', r, z⟩ => ⟨v, H', I', r, q v H' z⟩
end

/-- the fields of an own exception -/
def ExcR (K : PySem.W.Frag) (mg : Str → Option Value) (s : Sg) (c : Str) (fs : List (Str × D)) (cls : Value) (d : Option Addr) : Prop :=
  ∃ C, mg c = some (.ref C) ∧ cls = .ref C ∧ ((fs = [] ∧ d = none) ∨ ∃ dx vs, d = some dx ∧ s.H dx = some (.xd vs) ∧ vs.map (·.1) = fs.map (·.1) ∧ Reps K s.H s.M (fs.map (·.2)) (vs.map (·.2)))

/-- what is wanted behind an evaluation from s0 that gives o: R by the heap at the start of the part, the state behind it, the value -/
def GoalK {α β : Type} (K : PySem.W.Frag) (mg : Str → Option Value) (W : WX) (R : Hp → Sg → α → β → Prop) (s : Sg) (o : Out α) (Q : β → Hp → Prop) : Prop :=
  match o with
  | .ok v ρ' => ∀ u (M' : Addr → Prop) H', Tr s ⟨M', ρ', s.σ, H'⟩ → ER K mg ⟨M', ρ', s.σ, H'⟩ → R s.H ⟨M', ρ', s.σ, H'⟩ v u → Q u H'
  | .exc c fs ρ' => ∀ cls d (M' : Addr → Prop) H', Tr s ⟨M', ρ', s.σ, H'⟩ → ER K mg ⟨M', ρ', s.σ, H'⟩ → ExcR K mg ⟨M', ρ', s.σ, H'⟩ c fs cls d → W cls d s.σ H'
  | .stuck => False
abbrev Goal {α β : Type} (X : Cx) (W : WX) (R : Hp → Sg → α → β → Prop) (s : Sg) (o : Out α) (Q : β → Hp → Prop) : Prop := GoalK X.K X.mg W R s o Q
def REK (K : PySem.W.Frag) (mg : Str → Option Value) (H0 : Hp) (s : Sg) (v : EV) (u : V) : Prop := EVR K mg s v u ∧ FreshV H0 v u
abbrev RE (X : Cx) : Hp → Sg → EV → V → Prop := REK X.K X.mg
def RD (X : Cx) (H0 : Hp) (s : Sg) (d : D) (u : V) : Prop := Rep X.K s.H s.M d u
def RB (H0 : Hp) (s : Sg) (d : Bool) (u : Bool) : Prop := u = d
def RDs (X : Cx) (H0 : Hp) (s : Sg) (ds : List D) (us : List V) : Prop := Reps X.K s.H s.M ds us

structure DE (X : Cx) (W : WX) (e : Expr) (f : Env → Out EV) : Prop where
  run : ∀ s Q, ER X.K X.mg s → Goal X W (RE X) s (f s.ρ) Q → wE X e s.σ s.H Q
structure DD (X : Cx) (W : WX) (e : Expr) (f : Env → Out D) : Prop where
  run : ∀ s Q, ER X.K X.mg s → Goal X W (RD X) s (f s.ρ) Q → wE X e s.σ s.H Q
structure DT (X : Cx) (W : WX) (e : Expr) (f : Env → Out Bool) : Prop where
  run : ∀ s Q, ER X.K X.mg s → Goal X W RB s (f s.ρ) Q → wT X e s.σ s.H Q
structure DW (X : Cx) (W : WX) (e : Expr) (f : Env → Out Bool) : Prop where
  run : ∀ s Q, ER X.K X.mg s → Goal X W RB s (f s.ρ) Q → wW X e s.σ s.H Q
structure DDs (X : Cx) (W : WX) (e : List Expr) (f : Env → Out (List D)) : Prop where
  run : ∀ s Q, ER X.K X.mg s → Goal X W (RDs X) s (f s.ρ) Q → wA X e s.σ s.H Q

section
variable {X : Cx} {W : WX} {α β α' β' : Type} {R : Hp → Sg → α → β → Prop} {R' : Hp → Sg → α' → β' → Prop} {s s0 s1 s2 : Sg}
theorem GoalK.mono {o : Out α} {Q Q' : β → Hp → Prop} (h : Goal X W R s o Q) (q : ∀ v H', Q v H' → Q' v H') : Goal X W R s o Q' := by
  cases o with
  | ok v ρ' => exact fun u M' H' t E r => q _ _ (h u M' H' t E r)
  | exc c fs ρ' => exact h
  | stuck => exact h
/-- from s0 on, the part o is evaluated at s1 -/
theorem GoalK.bind {o : Out α} {g : α → Env → Out α'} {Q : β' → Hp → Prop} (t : Tr s0 s1) (hσ : s1.σ = s0.σ) (h : Goal X W R' s0 (o.bind g) Q) :
    Goal X W R s1 o (fun u H2 => ∃ v s2, s2.σ = s1.σ ∧ s2.H = H2 ∧ o = .ok v s2.ρ ∧ Tr s0 s2 ∧ Tr s1 s2 ∧ ER X.K X.mg s2 ∧ R s1.H s2 v u ∧ Goal X W R' s0 (g v s2.ρ) Q) := by
  cases o with
  | ok v ρ' => exact fun u M' H' t' E r => ⟨v, ⟨M', ρ', s1.σ, H'⟩, rfl, rfl, rfl, t.trans t', t', E, r, h⟩
  | exc c fs ρ' =>
    obtain ⟨M1, ρ1, σ1, H1⟩ := s1
    obtain ⟨M0, ρ0, σ0, H0⟩ := s0
    cases hσ
    exact fun cls d M' H' t' E r => h cls d M' H' (t.trans t') E r
  | stuck => exact h
theorem GoalK.bind0 {o : Out α} {g : α → Env → Out α'} {Q : β' → Hp → Prop} (E : ER X.K X.mg s0) (h : Goal X W R' s0 (o.bind g) Q) :
    Goal X W R s0 o (fun u H2 => ∃ v s2, s2.σ = s0.σ ∧ s2.H = H2 ∧ o = .ok v s2.ρ ∧ Tr s0 s2 ∧ Tr s0 s2 ∧ ER X.K X.mg s2 ∧ R s0.H s2 v u ∧ Goal X W R' s0 (g v s2.ρ) Q) :=
  GoalK.bind (Tr.refl E) rfl h
/-- the end of an evaluation -/
theorem GoalK.fin {v : α} {u : β} {Q : β → Hp → Prop} (h : Goal X W R s0 (.ok v s2.ρ) Q) (hσ : s2.σ = s0.σ) (t : Tr s0 s2) (E : ER X.K X.mg s2) (r : R s0.H s2 v u) : Q u s2.H := by
  obtain ⟨M2, ρ2, σ2, H2⟩ := s2
  cases hσ
  exact h u M2 H2 t E r
end

/-! ### data out of values -/
def frz : EV → Env → Out D
  | .sh d, ρ => .ok d ρ
  | .fr ds, ρ => .ok (.list ds) ρ
  | .bo i, ρ => match ρ[i]? with
    | some (some (.ow false ds)) => .ok (.list ds) (ρ.set i (some (.sh (.list ds))))
    | _ => .stuck
  | .fn _, _ => .stuck
  | .sc _, _ => .stuck
/-- what it reads as -/
def rd : EV → Env → Option D
  | .sh d, _ => some d
  | .fr ds, _ => some (.list ds)
  | .bo i, ρ => match ρ[i]? with
    | some (some (.ow _ ds)) => some (.list ds)
    | _ => none
  | .fn _, _ => none
  | .sc _, _ => none

section
variable {K : PySem.W.Frag} {mg : Str → Option Value} {s s0 s1 s2 : Sg}
theorem own_of_sub {s s' : Sg} (hσ : s'.σ = s.σ) (h : ∀ (i : Nat) sv, s'.ρ[i]? = some (some sv) → sv.own = true → ∃ sv', s.ρ[i]? = some (some sv') ∧ sv'.own = true) {b : Addr} (w : s'.Own b) : s.Own b := by
  obtain ⟨i, sv, e1, e2, e3⟩ := w
  obtain ⟨sv', e4, e5⟩ := h i sv e1 e2
  exact ⟨i, sv', e4, e5, by rw [← hσ]; exact e3⟩
/-- a list is let go of: nobody changes it any more -/
theorem er_drop (E : ER K mg s) {a : Addr} (hn : ¬ s.Own a) : ER K mg ⟨fun b => s.M b ∧ b ≠ a, s.ρ, s.σ, s.H⟩ where
  len := E.len
  slot := fun i sv e => by
    obtain ⟨u, e2, r⟩ := E.slot i sv e
    refine ⟨u, e2, ?_⟩
    have mv : ∀ a' xs, s.H a' = some (.lst xs) → ¬ s.M a' → s.H a' = some (.lst xs) ∧ ¬ (s.M a' ∧ a' ≠ a) := fun a' xs h n => ⟨h, fun z => n z.1⟩
    cases sv with
    | sh d => exact Rep.move (fun _ _ h => h) mv d r
    | ow b ds =>
      obtain ⟨a', xs, e3, hh, hm, q⟩ := r
      refine ⟨a', xs, e3, hh, ⟨hm, fun z => hn ?_⟩, Reps.move (fun _ _ h => h) mv ds q⟩
      subst z; subst e3
      exact ⟨i, _, e, rfl, e2⟩
    | fn x => exact r
    | sc ns => exact r
  inj := E.inj
  live := fun b h => E.live b h.1
theorem tr_drop (t : Tr s0 s) {a : Addr} (ha : s0.H a = none) : Tr s0 ⟨fun b => s.M b ∧ b ≠ a, s.ρ, s.σ, s.H⟩ where
  ext := t.ext
  mt := t.mt
  mnew := fun b h => t.mnew b h.1
  mold := fun b o h ho hw => ⟨t.mold b o h ho hw, fun z => by subst z; rw [ha] at ho; cases ho⟩
  own := t.own
  lent := t.lent
  ln := t.ln
theorem rep_drop {a : Addr} {d : D} {u : V} (h : Rep K s.H s.M d u) : Rep K s.H (fun b => s.M b ∧ b ≠ a) d u := Rep.move (fun _ _ h => h) (fun a' xs h n => ⟨h, fun z => n z.1⟩) d h
theorem reps_drop {a : Addr} {d : List D} {u : List V} (h : Reps K s.H s.M d u) : Reps K s.H (fun b => s.M b ∧ b ≠ a) d u := Reps.move (fun _ _ h => h) (fun a' xs h n => ⟨h, fun z => n z.1⟩) d h
/-- slot i's own list is let go of -/
theorem drop_slot (E : ER K mg s) (t : Tr s0 s) {i : Nat} {ds : List D} (hi : s.ρ[i]? = some (some (.ow false ds))) {u : V} (hu : s.σ[i]? = some (some u)) :
    ∃ M', ER K mg ⟨M', s.ρ.set i (some (.sh (.list ds))), s.σ, s.H⟩ ∧ Tr s0 ⟨M', s.ρ.set i (some (.sh (.list ds))), s.σ, s.H⟩ ∧ Rep K s.H M' (.list ds) u := by
  obtain ⟨u', e1, a, xs, e2, hh, hm, r⟩ := E.slot i _ hi
  rw [hu] at e1; cases e1; subst e2
  have hlt : i < s.ρ.length := (List.getElem?_eq_some_iff.mp hi).1
  have hown : s.Own a := ⟨i, _, hi, rfl, hu⟩
  have rp : Rep K s.H (fun b => s.M b ∧ b ≠ a) (.list ds) (.ref a) := by
    simp only [Rep]
    exact ⟨a, xs, rfl, hh, fun z => z.2 rfl, reps_drop r⟩
  have sub : ∀ (j : Nat) sv, (s.ρ.set i (some (.sh (.list ds))))[j]? = some (some sv) → sv.own = true → s.ρ[j]? = some (some sv) ∧ j ≠ i := fun j sv e o => by
    by_cases hj : i = j
    · subst hj
      rw [List.getElem?_set_self hlt] at e
      cases e; cases o
    · rw [List.getElem?_set_ne hj] at e
      exact ⟨e, fun z => hj z.symm⟩
  refine ⟨fun b => s.M b ∧ b ≠ a, ⟨by simpa using E.len, fun j sv e => ?_, fun j k p q b e1 e2 e3 e4 e5 e6 => ?_, fun b h => E.live b h.1⟩, ⟨t.ext, t.mt, fun b h => t.mnew b h.1, fun b o h ho hw => ⟨t.mold b o h ho hw, fun z => ?_⟩, fun b h => ?_, fun j sv e l => ?_, by simpa using t.ln⟩, rp⟩
  · by_cases hj : i = j
    · subst hj
      have e : (s.ρ.set i (some (.sh (.list ds))))[i]? = some (some sv) := e
      rw [List.getElem?_set_self hlt] at e
      cases e
      exact ⟨_, hu, rp⟩
    · have ej : (s.ρ.set i (some (.sh (.list ds))))[j]? = some (some sv) := e
      rw [List.getElem?_set_ne hj] at ej
      clear e
      obtain ⟨u, e2, r'⟩ := E.slot j sv ej
      refine ⟨u, e2, ?_⟩
      cases sv with
      | sh d => exact rep_drop r'
      | ow b ds' =>
        obtain ⟨a', xs', e3, hh', hm', q⟩ := r'
        refine ⟨a', xs', e3, hh', ⟨hm', fun z => hj ?_⟩, reps_drop q⟩
        subst z; subst e3
        exact E.inj i j _ _ a' hi rfl hu ej rfl e2
      | fn x => exact r'
      | sc ns => exact r'
  · obtain ⟨f1, _⟩ := sub j p e1 e2
    obtain ⟨f2, _⟩ := sub k q e4 e5
    exact E.inj j k p q b f1 e2 e3 f2 e5 e6
  · subst z
    rcases t.own b hown with y | y
    · exact hw y
    · rw [y] at ho; cases ho
  · exact t.own b (own_of_sub (s := s) (s' := ⟨fun b => s.M b ∧ b ≠ a, s.ρ.set i (some (.sh (.list ds))), s.σ, s.H⟩) rfl (fun j sv e o => ⟨sv, (sub j sv e o).1, o⟩) h)
  · obtain ⟨⟨sv', e1, l1⟩, e2⟩ := t.lent j sv e l
    refine ⟨⟨sv', ?_, l1⟩, e2⟩
    show (s.ρ.set i (some (.sh (.list ds))))[j]? = _
    rw [List.getElem?_set_ne ?_]
    · exact e1
    · intro z
      subst z
      rw [hi] at e1; cases e1; cases l1
theorem rd_ok {v : EV} {u : V} {d : D} (E : ER K mg s) (h : EVR K mg s v u) (e : rd v s.ρ = some d) : RepT K s.H s.M d u := by
  cases v with
  | sh d' => simp [rd] at e; subst e; exact Rep.top h
  | fr ds =>
    simp [rd] at e; subst e
    obtain ⟨a, xs, e1, hh, _, _, r⟩ := h
    exact ⟨a, xs, e1, hh, r⟩
  | bo i =>
    have hu : s.σ[i]? = some (some u) := h
    simp only [rd] at e
    split at e
    · rename_i b ds hi
      cases e
      obtain ⟨u', e1, a, xs, e2, hh, hm, r⟩ := E.slot i _ hi
      rw [hu] at e1; cases e1
      exact ⟨a, xs, e2, hh, r⟩
    · cases e
  | fn x => simp [rd] at e
  | sc ns => simp [rd] at e
end
/-- what it reads as, the script too -/
def rdS : EV → Env → Option D
  | .sc ns, _ => some (.list (ns.map .int))
  | v, ρ => rd v ρ
theorem reps_ints {K : PySem.W.Frag} {H : Hp} {M : Addr → Prop} : ∀ ns : List Int, Reps K H M (ns.map PyData.int) (ns.map V.int)
  | [] => reps_nil
  | n :: ns => reps_cons (by simp only [Rep]) (reps_ints ns)
theorem rdS_ok {K : PySem.W.Frag} {mg : Str → Option Value} {s : Sg} {v : EV} {u : V} {d : D} (E : ER K mg s) (h : EVR K mg s v u) (e : rdS v s.ρ = some d) : RepS K s.H s.M d u := by
  cases v with
  | sc ns =>
    simp only [rdS] at e; cases e
    obtain ⟨a, e1, q⟩ := ScR.sql h
    exact ⟨a, _, e1, q, reps_ints ns⟩
  | sh d' => exact RepT.s (rd_ok E h e)
  | fr ds => exact RepT.s (rd_ok E h e)
  | bo i => exact RepT.s (rd_ok E h e)
  | fn x => exact RepT.s (rd_ok E h e)
/-- .. as data -/
theorem DE.data {X : Cx} {W : WX} {e : Expr} {f : Env → Out EV} (h : DE X W e f) : DD X W e (fun ρ => (f ρ).bind frz) := by
  refine ⟨fun s Q E g => ?_⟩
  refine (h.run s _ E (GoalK.bind0 E g)).mono fun u H2 ⟨v, s2, hσ, hH, _, t, _, E2, ⟨r, fr⟩, g2⟩ => ?_
  subst hH
  cases v with
  | sh d => exact g2.fin hσ t E2 r
  | fr ds =>
    obtain ⟨a, xs, e1, hh, hm, hn, q⟩ := r
    subst e1
    refine g2.fin (s2 := ⟨fun b => s2.M b ∧ b ≠ a, s2.ρ, s2.σ, s2.H⟩) hσ (tr_drop t (fr a rfl)) (er_drop E2 hn) ?_
    show Rep _ _ _ _ _
    simp only [Rep]
    exact ⟨a, xs, rfl, hh, fun z => z.2 rfl, reps_drop q⟩
  | bo i =>
    have hu : s2.σ[i]? = some (some u) := r
    simp only [frz] at g2
    split at g2
    · rename_i ds hi
      obtain ⟨M', E3, t3, rp⟩ := drop_slot E2 t hi hu
      exact g2.fin (s2 := ⟨M', _, s2.σ, s2.H⟩) hσ t3 E3 rp
    · exact g2.elim
  | fn x => exact g2.elim
  | sc ns => exact g2.elim
theorem DD.ev {X : Cx} {W : WX} {e : Expr} {f : Env → Out D} (h : DD X W e f) : DE X W e (fun ρ => (f ρ).bind fun d ρ1 => .ok (.sh d) ρ1) := by
  refine ⟨fun s Q E g => ?_⟩
  refine (h.run s _ E (GoalK.bind0 E g)).mono fun u H2 ⟨v, s2, hσ, hH, _, t, _, E2, r, g2⟩ => ?_
  subst hH
  exact g2.fin hσ t E2 ⟨r, trivial⟩
end DL
namespace DL
open PySem PySem.Spec PyProof.Rows L2

inductive Fl where
  | nx | bk | ct
  | rt (v : EV)
def Out.seq (o : Out Fl) (g : Env → Out Fl) : Out Fl :=
  match o with
  | .ok .nx ρ => g ρ
  | o => o
@[simp] theorem Out.seq_nx (ρ : Env) (g : Env → Out Fl) : (Out.ok Fl.nx ρ).seq g = g ρ := rfl
@[simp] theorem Out.seq_rt (v : EV) (ρ : Env) (g : Env → Out Fl) : (Out.ok (Fl.rt v) ρ).seq g = .ok (.rt v) ρ := rfl
@[simp] theorem Out.seq_bk (ρ : Env) (g : Env → Out Fl) : (Out.ok Fl.bk ρ).seq g = .ok .bk ρ := rfl
@[simp] theorem Out.seq_ct (ρ : Env) (g : Env → Out Fl) : (Out.ok Fl.ct ρ).seq g = .ok .ct ρ := rfl
@[simp] theorem Out.seq_exc (c : Str) (fs : List (Str × D)) (ρ : Env) (g : Env → Out Fl) : (Out.exc c fs ρ).seq g = .exc c fs ρ := rfl
@[simp] theorem Out.seq_stuck (g : Env → Out Fl) : (Out.stuck).seq g = .stuck := rfl

def FreshO (s : Sg) : EV → V → Prop
  | .fr _, u => ∀ a, u = .ref a → s.Own a ∨ s.H a = none
  | _, _ => True
def SGoal (X : Cx) (W : WX) (s : Sg) (o : Out Fl) (D : Ends) : Prop :=
  match o with
  | .ok .nx ρ' => ∀ σ' (M' : Addr → Prop) H', Tr s ⟨M', ρ', σ', H'⟩ → ER X.K X.mg ⟨M', ρ', σ', H'⟩ → D.nx σ' H'
  | .ok .bk ρ' => ∀ σ' (M' : Addr → Prop) H', Tr s ⟨M', ρ', σ', H'⟩ → ER X.K X.mg ⟨M', ρ', σ', H'⟩ → D.bk σ' H'
  | .ok .ct ρ' => ∀ σ' (M' : Addr → Prop) H', Tr s ⟨M', ρ', σ', H'⟩ → ER X.K X.mg ⟨M', ρ', σ', H'⟩ → D.ct σ' H'
  | .ok (.rt v) ρ' => ∀ u σ' (M' : Addr → Prop) H', Tr s ⟨M', ρ', σ', H'⟩ → ER X.K X.mg ⟨M', ρ', σ', H'⟩ → EVR X.K X.mg ⟨M', ρ', σ', H'⟩ v u → FreshO s v u → D.rt u H'
  | .exc c fs ρ' => ∀ cls d σ' (M' : Addr → Prop) H', Tr s ⟨M', ρ', σ', H'⟩ → ER X.K X.mg ⟨M', ρ', σ', H'⟩ → ExcR X.K X.mg ⟨M', ρ', σ', H'⟩ c fs cls d → W cls d σ' H'
  | .stuck => False
structure DS (X : Cx) (W : WX) (c : Stmt) (f : Env → Out Fl) : Prop where
  run : ∀ s D, ER X.K X.mg s → SGoal X W s (f s.ρ) D → wS X c D s.σ s.H
structure DSs (X : Cx) (W : WX) (c : List Stmt) (f : Env → Out Fl) : Prop where
  run : ∀ s D, ER X.K X.mg s → SGoal X W s (f s.ρ) D → wSs X c D s.σ s.H

section
variable {X : Cx} {W : WX} {α β : Type} {R : Hp → Sg → α → β → Prop} {s s0 s1 s2 : Sg}
theorem FreshO.tr (E : ER X.K X.mg s) (t : Tr s s1) {v : EV} {u : V} (h : FreshO s1 v u) : FreshO s v u := by
  cases v with
  | fr ds =>
    intro a e
    rcases h a e with z | z
    · exact t.own a z
    · exact .inr (t.none_back z)
  | _ => trivial
theorem SGoal.tr {o : Out Fl} {D : Ends} (E : ER X.K X.mg s) (t : Tr s s1) (h : SGoal X W s o D) : SGoal X W s1 o D := by
  cases o with
  | ok f ρ' =>
    cases f with
    | nx => exact fun σ' M' H' t' E' => h σ' M' H' (t.trans t') E'
    | bk => exact fun σ' M' H' t' E' => h σ' M' H' (t.trans t') E'
    | ct => exact fun σ' M' H' t' E' => h σ' M' H' (t.trans t') E'
    | rt v => exact fun u σ' M' H' t' E' r fr => h u σ' M' H' (t.trans t') E' r (fr.tr E t)
  | exc c fs ρ' => exact fun cls d σ' M' H' t' E' r => h cls d σ' M' H' (t.trans t') E' r
  | stuck => exact h
/-- a part within a statement -/
theorem SGoal.bind {o : Out α} {g : α → Env → Out Fl} {D : Ends} (t : Tr s0 s1) (h : SGoal X W s0 (o.bind g) D) :
    Goal X W R s1 o (fun u H2 => ∃ v s2, s2.σ = s1.σ ∧ s2.H = H2 ∧ o = .ok v s2.ρ ∧ Tr s0 s2 ∧ Tr s1 s2 ∧ ER X.K X.mg s2 ∧ R s1.H s2 v u ∧ SGoal X W s0 (g v s2.ρ) D) := by
  cases o with
  | ok v ρ' => exact fun u M' H' t' E r => ⟨v, ⟨M', ρ', s1.σ, H'⟩, rfl, rfl, rfl, t.trans t', t', E, r, h⟩
  | exc c fs ρ' => exact fun cls d M' H' t' E r => h cls d s1.σ M' H' (t.trans t') E r
  | stuck => exact h
theorem SGoal.bind0 {o : Out α} {g : α → Env → Out Fl} {D : Ends} (E : ER X.K X.mg s0) (h : SGoal X W s0 (o.bind g) D) :
    Goal X W R s0 o (fun u H2 => ∃ v s2, s2.σ = s0.σ ∧ s2.H = H2 ∧ o = .ok v s2.ρ ∧ Tr s0 s2 ∧ Tr s0 s2 ∧ ER X.K X.mg s2 ∧ R s0.H s2 v u ∧ SGoal X W s0 (g v s2.ρ) D) :=
  SGoal.bind (Tr.refl E) h
theorem SGoal.fin_nx {D : Ends} (h : SGoal X W s0 (.ok .nx s2.ρ) D) (t : Tr s0 s2) (E : ER X.K X.mg s2) : D.nx s2.σ s2.H := h s2.σ s2.M s2.H t E

/-! ### blocks -/
theorem ds_never {c : Stmt} : DS X W c (fun _ => .stuck) := ⟨fun _ _ _ h => h.elim⟩
theorem dss_never {c : List Stmt} : DSs X W c (fun _ => .stuck) := ⟨fun _ _ _ h => h.elim⟩
theorem ds_nil : DSs X W [] (fun ρ => .ok .nx ρ) := ⟨fun s D E h => pss_nil.w (show tNext D s.σ s.H from h.fin_nx (Tr.refl E) E)⟩
theorem ds_cons {c : Stmt} {cs : List Stmt} {f g : Env → Out Fl} (h1 : DS X W c f) (h2 : DSs X W cs g) : DSs X W (c :: cs) (fun ρ => (f ρ).seq g) := by
  refine ⟨fun s D E h => (pss_cons (ps_w c) (pss_w cs)).w ?_⟩
  refine h1.run s _ E ?_
  cases q : f s.ρ with
  | ok fl ρ' =>
    rw [q] at h
    cases fl with
    | nx => exact fun σ' M' H' t' E' => h2.run ⟨M', ρ', σ', H'⟩ D E' (SGoal.tr E t' h)
    | bk => exact h
    | ct => exact h
    | rt v => exact h
  | exc c fs ρ' => rw [q] at h; exact h
  | stuck => rw [q] at h; exact h.elim
theorem ds_one {c : Stmt} {f : Env → Out Fl} (h1 : DS X W c f) : DSs X W [c] f := by
  refine ⟨fun s D E h => (pss_one (ps_w c)).w ?_⟩
  exact h1.run s D E h
theorem ds_pass {pos : Pos} : DS X W (.Pass pos) (fun ρ => .ok .nx ρ) := ⟨fun s D E h => ps_pass.w (show tNext D s.σ s.H from h.fin_nx (Tr.refl E) E)⟩
theorem ds_break {pos : Pos} : DS X W (.Break pos) (fun ρ => .ok .bk ρ) := ⟨fun s D E h => ps_break.w (show tBreak D s.σ s.H from h s.σ s.M s.H (Tr.refl E) E)⟩
theorem ds_continue {pos : Pos} : DS X W (.Continue pos) (fun ρ => .ok .ct ρ) := ⟨fun s D E h => ps_continue.w (show tCont D s.σ s.H from h s.σ s.M s.H (Tr.refl E) E)⟩

def dIf (fc : Env → Out Bool) (fa fb : Env → Out Fl) : Env → Out Fl := fun ρ => (fc ρ).bind fun k ρ1 => if k = true then fa ρ1 else fb ρ1
theorem ds_if {c : Expr} {a b : List Stmt} {fc : Env → Out Bool} {fa fb : Env → Out Fl} {pos : Pos} (hc : DT X W c fc) (ha : DSs X W a fa) (hb : DSs X W b fb) : DS X W (.If c a b pos) (dIf fc fa fb) := by
  refine ⟨fun s D E h => (ps_if (pt_w c) (pss_w a) (pss_w b)).w ?_⟩
  refine (hc.run s _ E (SGoal.bind0 E h)).mono fun k H2 ⟨v, s2, hσ, hH, _, t, _, E2, r, g2⟩ => ?_
  subst hH
  have r' : k = v := r
  subst r'
  rw [← hσ]
  cases k with
  | true => exact ha.run s2 D E2 (SGoal.tr E t g2)
  | false => exact hb.run s2 D E2 (SGoal.tr E t g2)

/-! ### return -/
/-- the value leaves the def: an own list goes with it -/
def leave : EV → Env → Out Fl
  | .sh d, ρ => .ok (.rt (.sh d)) ρ
  | .fr ds, ρ => .ok (.rt (.fr ds)) ρ
  | .fn x, ρ => .ok (.rt (.fn x)) ρ
  | .sc _, _ => .stuck
  | .bo i, ρ => match ρ[i]? with
    | some (some (.ow false ds)) => .ok (.rt (.fr ds)) (ρ.set i none)
    | _ => .stuck
/-- slot i is emptied -/
theorem er_unset (E : ER X.K X.mg s) (i : Nat) : ER X.K X.mg ⟨s.M, s.ρ.set i none, s.σ, s.H⟩ := by
  have sub : ∀ (j : Nat) sv, (s.ρ.set i none)[j]? = some (some sv) → s.ρ[j]? = some (some sv) ∧ j ≠ i := fun j sv e => by
    by_cases hj : i = j
    · subst hj
      by_cases hl : i < s.ρ.length
      · rw [List.getElem?_set_self hl] at e; cases e
      · rw [List.getElem?_eq_none (by simpa using hl)] at e; cases e
    · rw [List.getElem?_set_ne hj] at e
      exact ⟨e, fun z => hj z.symm⟩
  refine ⟨by simpa using E.len, fun j sv e => ?_, fun j k p q b e1 e2 e3 e4 e5 e6 => E.inj j k p q b (sub j p e1).1 e2 e3 (sub k q e4).1 e5 e6, E.live⟩
  obtain ⟨u, e2, r⟩ := E.slot j sv (sub j sv e).1
  refine ⟨u, e2, ?_⟩
  cases sv <;> exact r
theorem ds_ret {e : Expr} {f : Env → Out EV} {pos : Pos} (h : DE X W e f) : DS X W (.Return (some e) pos) (fun ρ => (f ρ).bind leave) := by
  refine ⟨fun s D E g => (ps_ret (pe_w e)).w ?_⟩
  refine (h.run s _ E (SGoal.bind0 E g)).mono fun u H2 ⟨v, s2, hσ, hH, _, t, _, E2, ⟨r, fr⟩, g2⟩ => ?_
  subst hH
  cases v with
  | sh d => exact g2 u s2.σ s2.M s2.H t E2 r trivial
  | fr ds => exact g2 u s2.σ s2.M s2.H t E2 r fun a e => .inr (fr a e)
  | fn x => exact g2 u s2.σ s2.M s2.H t E2 r trivial
  | sc ns => exact g2.elim
  | bo i =>
    have hu : s2.σ[i]? = some (some u) := r
    simp only [leave] at g2
    split at g2
    · rename_i ds hi
      obtain ⟨u', e1, a, xs, e2, hh, hm, q⟩ := E2.slot i _ hi
      rw [hu] at e1; cases e1; subst e2
      have hown : s2.Own a := ⟨i, _, hi, rfl, hu⟩
      have hlt : i < s2.ρ.length := (List.getElem?_eq_some_iff.mp hi).1
      have sub : ∀ (j : Nat) sv, (s2.ρ.set i none)[j]? = some (some sv) → s2.ρ[j]? = some (some sv) ∧ j ≠ i := fun j sv e => by
        by_cases hj : i = j
        · subst hj; rw [List.getElem?_set_self hlt] at e; cases e
        · rw [List.getElem?_set_ne hj] at e
          exact ⟨e, fun z => hj z.symm⟩
      have t3l : ∀ (j : Nat) (sv : SV), s.ρ[j]? = some (some sv) → sv.lent = true → (∃ sv', (s2.ρ.set i none)[j]? = some (some sv') ∧ sv'.lent = true) ∧ s2.σ[j]? = s.σ[j]? := fun j sv e l => by
        obtain ⟨⟨sv', e1, l1⟩, e2⟩ := t.lent j sv e l
        refine ⟨⟨sv', ?_, l1⟩, e2⟩
        rw [List.getElem?_set_ne ?_]
        · exact e1
        · intro z
          subst z
          rw [hi] at e1; cases e1; cases l1
      have t3 : Tr s ⟨s2.M, s2.ρ.set i none, s2.σ, s2.H⟩ := ⟨t.ext, t.mt, t.mnew, t.mold, fun b w => t.own b (own_of_sub (s := s2) (s' := ⟨s2.M, s2.ρ.set i none, s2.σ, s2.H⟩) rfl (fun j sv e o => ⟨sv, (sub j sv e).1, o⟩) w), t3l, by simpa using t.ln⟩
      refine g2 (.ref a) s2.σ s2.M s2.H t3 (er_unset E2 i) ⟨a, xs, rfl, hh, hm, fun w => ?_, q⟩ fun b e => ?_
      · obtain ⟨j, sv, e1, e2, e3⟩ := w
        obtain ⟨f1, f2⟩ := sub j sv e1
        exact f2 (E2.inj j i _ _ a f1 e2 e3 hi rfl hu)
      · cases e
        exact t.own a hown
    · exact g2.elim
theorem ds_retN {pos : Pos} : DS X W (.Return none pos) (fun ρ => .ok (.rt (.sh .none)) ρ) := ⟨fun s D E g => ps_retN.w (show D.rt .non s.H from g .non s.σ s.M s.H (Tr.refl E) E (show Rep _ _ _ _ _ by simp only [Rep]) trivial)⟩

/-! ### name = value -/
def stS (i : Nat) (sv : SV) (ρ : Env) : Option Env := match ρ[i]? with
  | some (some (.ow true _)) => none
  | some _ => some (ρ.set i (some sv))
  | none => none
theorem stS_some {i : Nat} {sv : SV} {ρ ρ' : Env} (h : stS i sv ρ = some ρ') : ρ' = ρ.set i (some sv) ∧ i < ρ.length ∧ ∀ sv0, ρ[i]? = some (some sv0) → sv0.lent = false := by
  unfold stS at h
  split at h
  · cases h
  · rename_i hn he
    refine ⟨(Option.some.inj h).symm, (List.getElem?_eq_some_iff.mp he).1, fun sv0 e => ?_⟩
    cases sv0 with
    | ow b ds =>
      cases b with
      | true => exact (hn ds (Option.some.inj (he.symm.trans e))).elim
      | false => rfl
    | _ => rfl
  · cases h
/-- slot i takes a value -/
theorem er_set (E : ER X.K X.mg s2) (t : Tr s s2) {i : Nat} {sv : SV} {u : V} (hi : i < s2.ρ.length) (hl : ∀ sv0, s2.ρ[i]? = some (some sv0) → sv0.lent = false) (r : SVR X.K X.mg s2 sv u)
    (hf : sv.own = true → ∀ a, u = .ref a → ¬ s2.Own a ∧ (s.Own a ∨ s.H a = none)) (hnl : sv.lent = false) :
    ER X.K X.mg ⟨s2.M, s2.ρ.set i (some sv), s2.σ.set i (some u), s2.H⟩ ∧ Tr s ⟨s2.M, s2.ρ.set i (some sv), s2.σ.set i (some u), s2.H⟩ := by
  have hiσ : i < s2.σ.length := by rw [← E.len]; exact hi
  have sub : ∀ (j : Nat) sv', (s2.ρ.set i (some sv))[j]? = some (some sv') → (j = i ∧ sv' = sv) ∨ (j ≠ i ∧ s2.ρ[j]? = some (some sv')) := fun j sv' e => by
    by_cases hj : i = j
    · subst hj; rw [List.getElem?_set_self hi] at e; cases e; exact .inl ⟨rfl, rfl⟩
    · rw [List.getElem?_set_ne hj] at e
      exact .inr ⟨fun z => hj z.symm, e⟩
  have sg : ∀ j, j ≠ i → (s2.σ.set i (some u))[j]? = s2.σ[j]? := fun j hj => List.getElem?_set_ne (fun z => hj z.symm)
  have si : (s2.σ.set i (some u))[i]? = some (some u) := List.getElem?_set_self hiσ
  refine ⟨⟨by simpa using E.len, fun j sv' e => ?_, fun j k p q b e1 e2 e3 e4 e5 e6 => ?_, E.live⟩, ⟨t.ext, t.mt, t.mnew, t.mold, fun b w => ?_, fun j sv' e l => ?_, by simpa using t.ln⟩⟩
  · rcases sub j sv' e with ⟨z, z2⟩ | ⟨z, z2⟩
    · subst z; subst z2
      refine ⟨u, si, ?_⟩
      cases sv' <;> exact r
    · obtain ⟨u', e2, r'⟩ := E.slot j sv' z2
      refine ⟨u', (sg j z).trans e2, ?_⟩
      cases sv' <;> exact r'
  · rcases sub j p e1 with ⟨z, z2⟩ | ⟨z, z2⟩
    · rcases sub k q e4 with ⟨y, y2⟩ | ⟨y, y2⟩
      · rw [z, y]
      · subst z; subst z2
        have e3 : (s2.σ.set j (some u))[j]? = some (some (.ref b)) := e3
        rw [si] at e3; cases e3
        have e6 : (s2.σ.set j (some (V.ref b)))[k]? = some (some (.ref b)) := e6
        rw [sg k y] at e6
        exact ((hf e2 b rfl).1 ⟨k, q, y2, e5, e6⟩).elim
    · have f3 : (s2.σ.set i (some u))[j]? = some (some (.ref b)) := e3
      rw [sg j z] at f3
      clear e3
      rcases sub k q e4 with ⟨y, y2⟩ | ⟨y, y2⟩
      · subst y; subst y2
        have f6 : (s2.σ.set k (some u))[k]? = some (some (.ref b)) := e6
        rw [si] at f6; cases f6
        exact ((hf e5 b rfl).1 ⟨j, p, z2, e2, f3⟩).elim
      · have f6 : (s2.σ.set i (some u))[k]? = some (some (.ref b)) := e6
        rw [sg k y] at f6
        exact E.inj j k p q b z2 e2 f3 y2 e5 f6
  · obtain ⟨j, sv', e1, e2, e3⟩ := w
    rcases sub j sv' e1 with ⟨z, z2⟩ | ⟨z, z2⟩
    · subst z; subst z2
      have e3 : (s2.σ.set j (some u))[j]? = some (some (.ref b)) := e3
      rw [si] at e3; cases e3
      exact (hf e2 b rfl).2
    · have e3 : (s2.σ.set i (some u))[j]? = some (some (.ref b)) := e3
      rw [sg j z] at e3
      exact t.own b ⟨j, sv', z2, e2, e3⟩
  · obtain ⟨⟨sv1, e1, l1⟩, e2⟩ := t.lent j sv' e l
    have hj : j ≠ i := fun z => by
      subst z
      rw [hl sv1 e1] at l1; cases l1
    refine ⟨⟨sv1, ?_, l1⟩, ?_⟩
    · show (s2.ρ.set i (some sv))[j]? = _
      rw [List.getElem?_set_ne (fun z => hj z.symm)]; exact e1
    · show (s2.σ.set i (some u))[j]? = _
      rw [sg j hj]; exact e2
/-- name = value: shared data stay shared, a new list is owned -/
def dSto (i : Nat) : EV → Env → Out Fl
  | .sh d, ρ => match stS i (.sh d) ρ with | some ρ' => .ok .nx ρ' | none => .stuck
  | .fr ds, ρ => match stS i (.ow false ds) ρ with | some ρ' => .ok .nx ρ' | none => .stuck
  | .fn x, ρ => match stS i (.fn x) ρ with | some ρ' => .ok .nx ρ' | none => .stuck
  | .bo _, _ => .stuck
  | .sc _, _ => .stuck
def dSet (i : Nat) (f : Env → Out EV) : Env → Out Fl := fun ρ => (f ρ).bind (dSto i)
theorem sto_ok {D : Ends} {i : Nat} {v : EV} {u : V} (E : ER X.K X.mg s2) (t : Tr s s2) (hσ : s2.σ = s.σ) (r : EVR X.K X.mg s2 v u) (fr : FreshV s.H v u) (g2 : SGoal X W s (dSto i v s2.ρ) D) : D.nx (s2.σ.set i (some u)) s2.H := by
  cases v with
  | sh d =>
    simp only [dSto] at g2
    split at g2
    · rename_i ρ' e
      obtain ⟨e1, e2, e3⟩ := stS_some e
      subst e1
      obtain ⟨a1, a2⟩ := er_set E t e2 e3 (sv := .sh d) (u := u) r (fun z => nomatch z) rfl
      exact g2 _ s2.M s2.H a2 a1
    · exact g2.elim
  | fr ds =>
    simp only [dSto] at g2
    split at g2
    · rename_i ρ' e
      obtain ⟨e1, e2, e3⟩ := stS_some e
      subst e1
      obtain ⟨a, xs, q1, q2, q3, q4, q5⟩ := r
      obtain ⟨a1, a2⟩ := er_set E t e2 e3 (sv := .ow false ds) (u := u) ⟨a, xs, q1, q2, q3, q5⟩ (fun _ b eb => by
        subst eb; cases q1
        exact ⟨q4, .inr (fr a rfl)⟩) rfl
      exact g2 _ s2.M s2.H a2 a1
    · exact g2.elim
  | fn x =>
    simp only [dSto] at g2
    split at g2
    · rename_i ρ' e
      obtain ⟨e1, e2, e3⟩ := stS_some e
      subst e1
      obtain ⟨a1, a2⟩ := er_set E t e2 e3 (sv := .fn x) (u := u) r (fun z => nomatch z) rfl
      exact g2 _ s2.M s2.H a2 a1
    · exact g2.elim
  | bo j => exact g2.elim
  | sc ns => exact g2.elim
theorem ds_set {i : Nat} {x : Str} {e : Expr} {f : Env → Out EV} {pos pos' : Pos} (h : DE X W e f) (hN : X.N.Nodup) (hi : X.N[i]? = some x) (hx : Loc X.env.scope x) (hs : swapsWith e (some (.Name x pos')) pos.line X.env = pure false)
    (hf : X.fn x = true ∨ X.env.scope.names.lookup x = some .local) : DS X W (.Assign [.Name x pos'] e pos) (dSet i f) := by
  refine ⟨fun s D E g => (ps_set hN hi hx (pe_w e) hs hf).w ?_⟩
  refine (h.run s _ E (SGoal.bind0 E g)).mono fun u H2 ⟨v, s2, hσ, hH, _, t, _, E2, ⟨r, fr⟩, g2⟩ => ?_
  subst hH
  show D.nx (s.σ.set i (some u)) s2.H
  rw [← hσ]
  exact sto_ok E2 t hσ r fr g2
end
end DL
namespace DL
open PySem PySem.Spec PyProof.Rows L2

/-! ### data in the heap -/
section
variable {X : Cx} {W : WX} {pins : List (Addr × Obj)} {σ : L2.St} {H : Hp} {M : Addr → Prop} {st : Shared}
mutual
theorem rep_reads (I : Inv X pins σ H st) : ∀ (d : D) {v : V} {u : Value}, Rep X.K H M d v → RelV v u → ∃ as, Reads st.heap u d as
  | .none, v, u, h, r => by
    simp only [Rep] at h; subst h; cases r
    exact ⟨_, .none⟩
  | .bool b, v, u, h, r => by
    simp only [Rep] at h; subst h; cases r
    exact ⟨_, .bool b⟩
  | .int i, v, u, h, r => by
    simp only [Rep] at h; subst h; obtain ⟨t, rfl⟩ := r
    exact ⟨_, .int i t⟩
  | .str x, v, u, h, r => by
    simp only [Rep] at h; obtain ⟨rfl, _⟩ := h; obtain ⟨t, rfl⟩ := r
    exact ⟨_, .str x t⟩
  | .tuple ds, v, u, h, r => by
    simp only [Rep] at h; obtain ⟨a, xs, rfl, t, q⟩ := h; cases r
    obtain ⟨its, rv, ⟨o, e1, e2, n, e3⟩, _⟩ := I.tuple t
    obtain ⟨as, ra⟩ := reps_reads I ds q rv
    exact ⟨_, .tuple e1 e2 e3 (by simpa using ra)⟩
  | .list ds, v, u, h, r => by
    simp only [Rep] at h; obtain ⟨a, xs, rfl, t, _, q⟩ := h; cases r
    obtain ⟨its, rv, ⟨o, n, e1, e2, _, e3⟩, _⟩ := I.list (SqL.of t)
    obtain ⟨as, ra⟩ := reps_reads I ds q rv
    exact ⟨_, .list e1 e2 e3 (by simpa using ra)⟩
  | .dict _, v, u, h, r => by simp only [Rep] at h
theorem reps_reads (I : Inv X pins σ H st) : ∀ (ds : List D) {xs : List V} {us : List Value}, Reps X.K H M ds xs → Vals xs us → ∃ as, ReadsAll st.heap us ds as
  | [], xs, us, h, r => by
    rw [reps_nil_inv h] at r; cases r
    exact ⟨_, .nil⟩
  | d :: ds, xs, us, h, r => by
    obtain ⟨x, xr, e, hx, t⟩ := reps_inv h
    subst e
    cases r with
    | cons r1 r2 =>
      obtain ⟨as, ra⟩ := rep_reads I d hx r1
      obtain ⟨bs, rb⟩ := reps_reads I ds t r2
      exact ⟨_, .cons ra rb⟩
end
theorem repS_reads (I : Inv X pins σ H st) {d : D} {v : V} {u : Value} (h : RepS X.K H M d v) (r : RelV v u) : ∃ as, Reads st.heap u d as := by
  cases d with
  | list ds =>
    obtain ⟨a, xs, rfl, t, q⟩ := h; cases r
    obtain ⟨its, rv, ⟨o, n, e1, e2, _, e3⟩, _⟩ := I.list t
    obtain ⟨as, ra⟩ := reps_reads I ds q rv
    exact ⟨_, .list e1 e2 e3 (by simpa using ra)⟩
  | _ => exact rep_reads (M := M) I _ h r
theorem rept_reads (I : Inv X pins σ H st) {d : D} {v : V} {u : Value} (h : RepT X.K H M d v) (r : RelV v u) : ∃ as, Reads st.heap u d as := repS_reads I h.s r
end
mutual
theorem rep_plain {K : PySem.W.Frag} {H : Hp} {M : Addr → Prop} : ∀ (d : D) {v : V}, Rep K H M d v → d.plain = true
  | .none, _, _ => rfl
  | .bool _, _, _ => rfl
  | .int _, _, _ => rfl
  | .str _, _, _ => rfl
  | .tuple ds, v, h => by
    simp only [Rep] at h; obtain ⟨a, xs, _, _, q⟩ := h
    simp only [PyData.plain]; exact reps_plain ds q
  | .list ds, v, h => by
    simp only [Rep] at h; obtain ⟨a, xs, _, _, _, q⟩ := h
    simp only [PyData.plain]; exact reps_plain ds q
  | .dict _, v, h => by simp only [Rep] at h
theorem reps_plain {K : PySem.W.Frag} {H : Hp} {M : Addr → Prop} : ∀ (ds : List D) {v : List V}, Reps K H M ds v → PyData.plainAll ds = true
  | [], _, _ => rfl
  | d :: ds, v, h => by
    obtain ⟨x, xr, e, hx, t⟩ := reps_inv h
    simp only [PyData.plainAll, rep_plain d hx, reps_plain ds t, Bool.and_self]
end
theorem repS_plain {K : PySem.W.Frag} {H : Hp} {M : Addr → Prop} {d : D} {v : V} (h : RepS K H M d v) : d.plain = true := by
  cases d with
  | list ds =>
    obtain ⟨a, xs, _, _, q⟩ := h
    simp only [PyData.plain]; exact reps_plain ds q
  | _ => exact rep_plain (K := K) (H := H) (M := M) (v := v) _ h

theorem rept_plain {K : PySem.W.Frag} {H : Hp} {M : Addr → Prop} {d : D} {v : V} (h : RepT K H M d v) : d.plain = true := repS_plain h.s

/-! ### new objects -/
section
variable {X : Cx} {W : WX} {s s0 : Sg}
theorem er_upd (E : ER X.K X.mg s) {p : Addr} (hp : s.H p = none) {o : HO} {M' : Addr → Prop} (hM : ∀ b, M' b → s.M b ∨ b = p) (hM2 : ∀ b, s.M b → M' b) : ER X.K X.mg ⟨M', s.ρ, s.σ, upd s.H p o⟩ := by
  have ht : ∀ a xs, Rd s.H a (.tup xs) → Rd (upd s.H p o) a (.tup xs) := fun a xs h => by
    obtain ⟨ob, e⟩ := Rd.some_of h
    have ne : a ≠ p := ne_of_none e hp
    rcases h with h | ⟨o', h⟩
    · exact .inl (by rw [upd_ne ne]; exact h)
    · exact .inr ⟨o', by rw [upd_ne ne]; exact h⟩
  have hl : ∀ a xs, s.H a = some (.lst xs) → ¬ s.M a → (upd s.H p o) a = some (.lst xs) ∧ ¬ M' a := fun a xs h n => ⟨(upd_ne (ne_of_none h hp)).trans h, fun z => (hM a z).elim n (ne_of_none h hp)⟩
  refine ⟨E.len, fun i sv e => ?_, E.inj, fun b h => ?_⟩
  · obtain ⟨u, e2, r⟩ := E.slot i sv e
    refine ⟨u, e2, ?_⟩
    cases sv with
    | sh d => exact Rep.move ht hl d r
    | ow b ds =>
      obtain ⟨a, xs, e3, hh, hm, q⟩ := r
      exact ⟨a, xs, e3, (upd_ne (ne_of_none hh hp)).trans hh, hM2 a hm, Reps.move ht hl ds q⟩
    | fn x => exact r
    | sc ns =>
      obtain ⟨a, e3, q⟩ := r
      refine ⟨a, e3, ?_⟩
      rcases q with ⟨ob, q⟩ | q
      · exact .inl ⟨ob, (upd_ne (ne_of_none q hp)).trans q⟩
      · exact .inr q
  · rcases hM b h with z | z
    · obtain ⟨ob, e⟩ := E.live b z
      exact ⟨ob, (upd_ne (ne_of_none e hp)).trans e⟩
    · exact ⟨o, by rw [z]; exact upd_same⟩
theorem reps_upd {p : Addr} (hp : s.H p = none) {o : HO} {M' : Addr → Prop} (hM : ∀ b, M' b → s.M b ∨ b = p) {ds : List D} {xs : List V} (h : Reps X.K s.H s.M ds xs) : Reps X.K (upd s.H p o) M' ds xs := by
  refine Reps.move (fun a xs h => ?_) (fun a xs h n => ?_) ds h
  · obtain ⟨ob, e⟩ := Rd.some_of h
    have ne : a ≠ p := ne_of_none e hp
    rcases h with h | ⟨o', h⟩
    · exact .inl (by rw [upd_ne ne]; exact h)
    · exact .inr ⟨o', by rw [upd_ne ne]; exact h⟩
  · exact ⟨(upd_ne (ne_of_none h hp)).trans h, fun z => (hM a z).elim n (ne_of_none h hp)⟩
theorem tr_upd (E : ER X.K X.mg s) (t : Tr s0 s) {p : Addr} (hp : s.H p = none) {o : HO} {M' : Addr → Prop} (hM : ∀ b, M' b → s.M b ∨ b = p) (hM2 : ∀ b, s.M b → M' b) : Tr s0 ⟨M', s.ρ, s.σ, upd s.H p o⟩ where
  ext := fun b ob h hw => by
    have e := t.ext b ob h hw
    exact (upd_ne (ne_of_none e hp)).trans e
  mt := fun b h => by
    obtain ⟨xs, e⟩ := t.mt b h
    exact ⟨xs, (upd_ne (ne_of_none e hp)).trans e⟩
  mnew := fun b h => by
    rcases hM b h with z | z
    · exact t.mnew b z
    · exact .inr (by rw [z]; exact t.none_back hp)
  mold := fun b ob h ho hw => hM2 b (t.mold b ob h ho hw)
  own := fun b h => t.own b h
  lent := t.lent
  ln := t.ln
theorem not_own_new (E : ER X.K X.mg s) {p : Addr} (hp : s.H p = none) : ¬ s.Own p := fun w => by
  obtain ⟨_, xs, e⟩ := E.own_lst w
  rw [hp] at e; cases e
/-- a new list -/
theorem GoalK.new_list {ds : List D} {xs : List V} {Q : VK} (E : ER X.K X.mg s) (t : Tr s0 s) (hσ : s.σ = s0.σ) (r : Reps X.K s.H s.M ds xs) (g : Goal X W (RE X) s0 (.ok (.fr ds) s.ρ) Q) :
    ∀ p, s.H p = none → Q (.ref p) (upd s.H p (.lst xs)) := fun p hp => by
  have h1 : ∀ b, (s.M b ∨ b = p) → s.M b ∨ b = p := fun b h => h
  have h2 : ∀ b, s.M b → (s.M b ∨ b = p) := fun b h => .inl h
  refine g.fin (s2 := ⟨fun b => s.M b ∨ b = p, s.ρ, s.σ, upd s.H p (.lst xs)⟩) hσ (tr_upd E t hp h1 h2) (er_upd E hp h1 h2) ⟨⟨p, xs, rfl, upd_same, .inr rfl, fun w => not_own_new E hp w, reps_upd hp h1 r⟩, fun a e => ?_⟩
  cases e
  exact t.none_back hp
/-- a new tuple -/
theorem GoalK.new_tup {ds : List D} {xs : List V} {Q : VK} (E : ER X.K X.mg s) (t : Tr s0 s) (hσ : s.σ = s0.σ) (r : Reps X.K s.H s.M ds xs) (g : Goal X W (RE X) s0 (.ok (.sh (.tuple ds)) s.ρ) Q) :
    ∀ p, s.H p = none → Q (.ref p) (upd s.H p (.tup xs)) := fun p hp => by
  have h1 : ∀ b, s.M b → s.M b ∨ b = p := fun b h => .inl h
  have h2 : ∀ b, s.M b → s.M b := fun b h => h
  refine g.fin (s2 := ⟨s.M, s.ρ, s.σ, upd s.H p (.tup xs)⟩) hσ (tr_upd E t hp h1 h2) (er_upd E hp h1 h2) ⟨?_, trivial⟩
  show Rep _ _ _ _ _
  simp only [Rep]
  exact ⟨p, xs, rfl, .inl (.inl upd_same), reps_upd hp h1 r⟩
theorem GoalK.new_tupD {ds : List D} {xs : List V} {Q : VK} (E : ER X.K X.mg s) (t : Tr s0 s) (hσ : s.σ = s0.σ) (r : Reps X.K s.H s.M ds xs) (g : Goal X W (RD X) s0 (.ok (.tuple ds) s.ρ) Q) :
    ∀ p, s.H p = none → Q (.ref p) (upd s.H p (.tup xs)) := fun p hp => by
  have h1 : ∀ b, s.M b → s.M b ∨ b = p := fun b h => .inl h
  have h2 : ∀ b, s.M b → s.M b := fun b h => h
  refine g.fin (s2 := ⟨s.M, s.ρ, s.σ, upd s.H p (.tup xs)⟩) hσ (tr_upd E t hp h1 h2) (er_upd E hp h1 h2) ?_
  show Rep _ _ _ _ _
  simp only [Rep]
  exact ⟨p, xs, rfl, .inl (.inl upd_same), reps_upd hp h1 r⟩
/-- plain data -/
theorem GoalK.flat {d : D} {u : V} {Q : VK} (E : ER X.K X.mg s) (t : Tr s0 s) (hσ : s.σ = s0.σ) (r : Rep X.K s.H s.M d u) (g : Goal X W (RE X) s0 (.ok (.sh d) s.ρ) Q) : Q u s.H := g.fin hσ t E ⟨r, trivial⟩
end

/-! ### names, constants -/
section
variable {X : Cx} {W : WX} {s s0 : Sg}
def fVar (i : Nat) : Env → Out EV := fun ρ => match ρ[i]? with
  | some (some (.sh d)) => .ok (.sh d) ρ
  | some (some (.ow _ _)) => .ok (.bo i) ρ
  | some (some (.fn x)) => .ok (.fn x) ρ
  | some (some (.sc ns)) => .ok (.sc ns) ρ
  | _ => .stuck
theorem de_var {i : Nat} {x : Str} {pos : Pos} (hN : X.N[i]? = some x) (hv : Vis X.env.scope x) (hd : (x == ("__debug__" : Str)) = false := by decide) (hcd : (x == ("__classdict__" : Str)) = false := by decide) : DE X W (.Name x pos) (fVar i) := by
  refine ⟨fun s Q E g => (pe_var hN hv hd hcd).w ?_⟩
  have key : ∀ (u : V), s.σ[i]? = some (some u) → Q u s.H → tVar i s.σ s.H Q := fun u e q => ⟨u, e, q⟩
  simp only [fVar] at g
  split at g
  · rename_i d e
    obtain ⟨u, e2, r⟩ := E.slot i _ e
    exact key u e2 (g u s.M s.H (Tr.refl E) E ⟨r, trivial⟩)
  · rename_i b ds e
    obtain ⟨u, e2, r⟩ := E.slot i _ e
    exact key u e2 (g u s.M s.H (Tr.refl E) E ⟨e2, trivial⟩)
  · rename_i y e
    obtain ⟨u, e2, r⟩ := E.slot i _ e
    exact key u e2 (g u s.M s.H (Tr.refl E) E ⟨r, trivial⟩)
  · rename_i y e
    obtain ⟨u, e2, r⟩ := E.slot i _ e
    exact key u e2 (g u s.M s.H (Tr.refl E) E ⟨r, trivial⟩)
  · exact g.elim
def fC (d : D) : Env → Out EV := fun ρ => .ok (.sh d) ρ
theorem de_int {i : Int} {j pos} : DE X W (.Constant (.int i) j pos) (fC (.int i)) := ⟨fun s Q E g => pe_int.w (g.fin (s2 := s) rfl (Tr.refl E) E ⟨by show Rep _ _ _ _ _; simp only [Rep], trivial⟩)⟩
theorem de_bool {b : Bool} {j pos} : DE X W (.Constant (.bool b) j pos) (fC (.bool b)) := ⟨fun s Q E g => pe_bl.w (g.fin (s2 := s) rfl (Tr.refl E) E ⟨by show Rep _ _ _ _ _; simp only [Rep], trivial⟩)⟩
theorem de_none {j pos} : DE X W (.Constant .none j pos) (fC .none) := ⟨fun s Q E g => pe_non.w (g.fin (s2 := s) rfl (Tr.refl E) E ⟨by show Rep _ _ _ _ _; simp only [Rep], trivial⟩)⟩
theorem de_str {x : Str} {j pos} (h : x.length ≤ sizeLine := by decide +kernel) : DE X W (.Constant (.str x) j pos) (fC (.str x)) := ⟨fun s Q E g => pe_str.w (g.fin (s2 := s) rfl (Tr.refl E) E ⟨by show Rep _ _ _ _ _; simp only [Rep]; exact ⟨trivial, h⟩, trivial⟩)⟩
/-- a module's text or number -/
theorem de_globI {x : Str} {i : Int} {t : Tok} {pos : Pos} (hg : Gl X x) (hm : X.mg x = some (.int i t)) (hd : (x == ("__debug__" : Str)) = false := by decide) : DE X W (.Name x pos) (fC (.int i)) := ⟨fun s Q E g => (pe_glob (v := .int i) hg hm ⟨t, rfl⟩ hd).w (g.fin (s2 := s) rfl (Tr.refl E) E ⟨by show Rep _ _ _ _ _; simp only [Rep], trivial⟩)⟩
theorem de_globS {x y : Str} {t : Tok} {pos : Pos} (hg : Gl X x) (hm : X.mg x = some (.str y t)) (h : y.length ≤ sizeLine := by decide +kernel) (hd : (x == ("__debug__" : Str)) = false := by decide) : DE X W (.Name x pos) (fC (.str y)) := ⟨fun s Q E g => (pe_glob (v := .str y) hg hm ⟨t, rfl⟩ hd).w (g.fin (s2 := s) rfl (Tr.refl E) E ⟨by show Rep _ _ _ _ _; simp only [Rep]; exact ⟨trivial, h⟩, trivial⟩)⟩
/-- a def of the text as a value -/
theorem de_fn {x : Str} {f : Addr} {pos : Pos} (hg : Gl X x) (hm : X.mg x = some (.ref f)) (hd : (x == ("__debug__" : Str)) = false := by decide) : DE X W (.Name x pos) (fun ρ => .ok (.fn x) ρ) := ⟨fun s Q E g => (pe_glob (v := .ref f) hg hm rfl hd).w (g.fin (s2 := s) rfl (Tr.refl E) E ⟨⟨f, hm, rfl⟩, trivial⟩)⟩

/-! ### operations of two values -/
def wO (X : Cx) (f : Value → Value → Sem Value) (x y : V) (H : Hp) (Q : VK) : Prop := ∀ (pins : List (Addr × Obj)) (σ : L2.St) (st : Shared) (v u : Value), Inv X pins σ H st → RelV x v → RelV y u → wpAny (model X.prog X.w) X.A (f v u) (EP X pins σ Q) X.xe st
theorem opr_w {f : Value → Value → Sem Value} : OpR X f (wO X f) := fun pins s σ H x y v u Q I r1 r2 h => h pins σ s v u I r1 r2
theorem _root_.L2.OpR.w {f : Value → Value → Sem Value} {r : R2} (h : OpR X f r) {x y : V} {H : Hp} {Q : VK} (q : r x y H Q) : wO X f x y H Q := fun pins σ st v u I r1 r2 => h pins st σ H x y v u Q I r1 r2 q
/-- what the operation f gives on data -/
structure DO2 (X : Cx) (W : WX) (f : Value → Value → Sem Value) (op : D → D → Env → Out EV) : Prop where
  run : ∀ (s0 s : Sg) (da db : D) (u1 u2 : V) (Q : VK), ER X.K X.mg s → Tr s0 s → s.σ = s0.σ → RepT X.K s.H s.M da u1 → RepT X.K s.H s.M db u2 → Goal X W (RE X) s0 (op da db s.ρ) Q → wO X f u1 u2 s.H Q
def rd2 (op : D → D → Env → Out EV) (va vb : EV) (ρ : Env) : Out EV := match rd va ρ, rd vb ρ with
  | some da, some db => op da db ρ
  | _, _ => .stuck
def fBin (op : D → D → Env → Out EV) (fa fb : Env → Out EV) : Env → Out EV := fun ρ => (fa ρ).bind fun va ρ1 => (fb ρ1).bind fun vb ρ2 => rd2 op va vb ρ2
theorem bin_core {a b : Expr} {fa fb : Env → Out EV} {f : Value → Value → Sem Value} {op : D → D → Env → Out EV} (ho : DO2 X W f op) (ha : DE X W a fa) (hb : DE X W b fb) {Q : VK} (E : ER X.K X.mg s) (g : Goal X W (RE X) s (fBin op fa fb s.ρ) Q) :
    tOp (wO X f) (wE X a) (wE X b) s.σ s.H Q := by
  refine (ha.run s _ E (GoalK.bind0 E g)).mono fun u1 H1 ⟨v1, s1, hσ, hH, _, t1, _, E1, ⟨r1, fr1⟩, g1⟩ => ?_
  subst hH
  show wE X b s.σ s1.H _
  rw [← hσ]
  refine (hb.run s1 _ E1 (GoalK.bind t1 hσ g1)).mono fun u2 H2 ⟨v2, s2, hσ2, hH2, _, t2, t12, E2, ⟨r2, fr2⟩, g2⟩ => ?_
  subst hH2
  have r1' := EVR.tr E1 t12 hσ2 r1
  simp only [rd2] at g2
  split at g2
  · rename_i da db ea eb
    exact ho.run s s2 da db u1 u2 Q E2 t2 (hσ2.trans hσ) (rd_ok E2 r1' ea) (rd_ok E2 r2 eb) g2
  · exact g2.elim
theorem de_bin {a b : Expr} {fa fb : Env → Out EV} {o : Operator} {op : D → D → Env → Out EV} {pos : Pos} (ho : DO2 X W (binaryOp o) op) (ha : DE X W a fa) (hb : DE X W b fb) : DE X W (.BinOp a o b pos) (fBin op fa fb) :=
  ⟨fun s Q E g => (pe_op opr_w (pe_w a) (pe_w b)).w (bin_core ho ha hb E g)⟩
theorem de_cmp {a b : Expr} {fa fb : Env → Out EV} {o : CmpOp} {op : D → D → Env → Out EV} {pos : Pos} (ho : DO2 X W (compareOp o) op) (ha : DE X W a fa) (hb : DE X W b fb) (hm : behindInMarks o b = false := by rfl) : DE X W (.Compare a [o] [b] pos) (fBin op fa fb) :=
  ⟨fun s Q E g => (pe_cmpR opr_w (pe_w a) (pe_w b) hm).w (bin_core ho ha hb E g)⟩
end
end DL
namespace DL
open PySem PySem.Spec PyProof.Rows L2

section
variable {X : Cx} {W : WX} {s s0 : Sg}
theorem rep_int {K : PySem.W.Frag} {H : Hp} {M : Addr → Prop} {i : Int} : Rep K H M (.int i) (.int i) := by simp only [Rep]
theorem rep_bool {K : PySem.W.Frag} {H : Hp} {M : Addr → Prop} {i : Bool} : Rep K H M (.bool i) (.bl i) := by simp only [Rep]
theorem rep_none {K : PySem.W.Frag} {H : Hp} {M : Addr → Prop} : Rep K H M .none .non := by simp only [Rep]
theorem rep_str {K : PySem.W.Frag} {H : Hp} {M : Addr → Prop} {x : Str} (h : x.length ≤ sizeLine) : Rep K H M (.str x) (.str x) := by simp only [Rep]; exact ⟨trivial, h⟩
theorem ofS_int {K : PySem.W.Frag} {H : Hp} {M : Addr → Prop} {i : Int} {u : V} (h : RepS K H M (.int i) u) : u = .int i := by simpa only [RepS, Rep] using h
theorem ofS_str {K : PySem.W.Frag} {H : Hp} {M : Addr → Prop} {x : Str} {u : V} (h : RepS K H M (.str x) u) : u = .str x ∧ x.length ≤ sizeLine := by simpa only [RepS, Rep] using h
theorem ofS_bool {K : PySem.W.Frag} {H : Hp} {M : Addr → Prop} {i : Bool} {u : V} (h : RepS K H M (.bool i) u) : u = .bl i := by simpa only [RepS, Rep] using h
theorem ofS_none {K : PySem.W.Frag} {H : Hp} {M : Addr → Prop} {u : V} (h : RepS K H M .none u) : u = .non := by simpa only [RepS, Rep] using h
theorem ofS_tup {K : PySem.W.Frag} {H : Hp} {M : Addr → Prop} {ds : List D} {u : V} (h : RepS K H M (.tuple ds) u) : ∃ a xs, u = .ref a ∧ SqT K H a xs ∧ Reps K H M ds xs := by simpa only [RepS, Rep] using h
theorem ofS_list {K : PySem.W.Frag} {H : Hp} {M : Addr → Prop} {ds : List D} {u : V} (h : RepS K H M (.list ds) u) : ∃ a xs, u = .ref a ∧ SqL K H a xs ∧ Reps K H M ds xs := h
theorem ofT_int {K : PySem.W.Frag} {H : Hp} {M : Addr → Prop} {i : Int} {u : V} (h : RepT K H M (.int i) u) : u = .int i := ofS_int h.s
theorem ofT_str {K : PySem.W.Frag} {H : Hp} {M : Addr → Prop} {x : Str} {u : V} (h : RepT K H M (.str x) u) : u = .str x ∧ x.length ≤ sizeLine := ofS_str h.s
theorem ofT_tup {K : PySem.W.Frag} {H : Hp} {M : Addr → Prop} {ds : List D} {u : V} (h : RepT K H M (.tuple ds) u) : ∃ a xs, u = .ref a ∧ SqT K H a xs ∧ Reps K H M ds xs := ofS_tup h.s
theorem ofT_list {K : PySem.W.Frag} {H : Hp} {M : Addr → Prop} {ds : List D} {u : V} (h : RepT K H M (.list ds) u) : ∃ a xs, u = .ref a ∧ H a = some (.lst xs) ∧ Reps K H M ds xs := h

theorem str_len_app (x y : Str) : (x ++ y).length = x.length + y.length := by
  show (x.cps ++ y.cps).size = _
  rw [Array.size_append]; rfl
/-! ### + -/
def opAdd : D → D → Env → Out EV
  | .int i, .int j, ρ => .ok (.sh (.int (i + j))) ρ
  | .str x, .str y, ρ => if x.length + y.length ≤ sizeLine then .ok (.sh (.str (x ++ y))) ρ else .stuck
  | .list xs, .list ys, ρ => if xs.length + ys.length ≤ sizeLine then .ok (.fr (xs ++ ys)) ρ else .stuck
  | .tuple xs, .tuple ys, ρ => if xs.length + ys.length ≤ sizeLine then .ok (.sh (.tuple (xs ++ ys))) ρ else .stuck
  | _, _, _ => .stuck
theorem do_add : DO2 X W (binaryOp .Add) opAdd := by
  refine ⟨fun s0 s da db u1 u2 Q E t hσ ra rb g => ?_⟩
  unfold opAdd at g
  split at g
  · rw [ofT_int ra, ofT_int rb]
    exact op_add.w ⟨_, _, rfl, rfl, g.flat E t hσ rep_int⟩
  · rename_i x y
    obtain ⟨rfl, _⟩ := ofT_str ra
    obtain ⟨rfl, _⟩ := ofT_str rb
    split at g
    · rename_i hz
      exact op_add_str.w ⟨_, _, rfl, rfl, hz, g.flat E t hσ (rep_str (by rw [str_len_app]; exact hz))⟩
    · exact g.elim
  · rename_i ds es
    obtain ⟨a, xs, rfl, ha, qa⟩ := ofT_list ra
    obtain ⟨b, ys, rfl, hb, qb⟩ := ofT_list rb
    split at g
    · rename_i hz
      exact op_cat.w ⟨_, _, _, _, rfl, rfl, ha, hb, by rw [qa.length, qb.length]; exact hz, g.new_list E t hσ (qa.append qb)⟩
    · exact g.elim
  · rename_i ds es
    obtain ⟨a, xs, rfl, ha, qa⟩ := ofT_tup ra
    obtain ⟨b, ys, rfl, hb, qb⟩ := ofT_tup rb
    split at g
    · rename_i hz
      have mk : ∀ c zs, SqT X.K s.H c zs → Reps X.K s.H s.M (ds ++ es) zs → Q (.ref c) s.H := fun c zs h q => g.flat E t hσ (by simp only [Rep]; exact ⟨c, zs, rfl, h, q⟩)
      refine op_catA.w ⟨_, _, _, _, rfl, rfl, ha, hb, by rw [qa.length, qb.length]; exact hz, fun e => ?_, fun _ e => ?_, fun _ _ => g.new_tup E t hσ (qa.append qb)⟩
      · refine mk b ys hb ?_
        have := qa.append qb
        rw [e, List.nil_append] at this; exact this
      · refine mk a xs ha ?_
        have := qa.append qb
        rw [e, List.append_nil] at this; exact this
    · exact g.elim
  · exact g.elim
def opSub : D → D → Env → Out EV
  | .int i, .int j, ρ => .ok (.sh (.int (i - j))) ρ
  | _, _, _ => .stuck
theorem do_sub : DO2 X W (binaryOp .Sub) opSub := by
  refine ⟨fun s0 s da db u1 u2 Q E t hσ ra rb g => ?_⟩
  unfold opSub at g
  split at g
  · rw [ofT_int ra, ofT_int rb]
    exact op_sub.w ⟨_, _, rfl, rfl, g.flat E t hσ rep_int⟩
  · exact g.elim

/-! ### * // % ** -/
def sRep (x : Str) (n : Int) : Str := ⟨(List.replicate n.toNat x.cps.toList).flatten.toArray⟩
theorem sRep_len (x : Str) (n : Int) : (sRep x n).length = x.length * n.toNat := by
  show (List.replicate n.toNat x.cps.toList).flatten.toArray.size = _
  rw [List.size_toArray, List.length_flatten, List.map_replicate, List.sum_replicate_nat, Array.length_toList, Nat.mul_comm]; rfl
theorem sRep_fold (x : Str) (n : Int) : (⟨List.foldl (fun x1 x2 => x1 ++ x2) #[] (List.replicate n.toNat x.cps)⟩ : Str) = sRep x n := by
  have h : ∀ (m : Nat) (acc : Array Nat), List.foldl (fun x1 x2 => x1 ++ x2) acc (List.replicate m x.cps) = (acc.toList ++ (List.replicate m x.cps.toList).flatten).toArray := by
    intro m
    induction m with
    | zero => intro acc; simp
    | succ m ih => intro acc; rw [List.replicate_succ, List.foldl_cons, ih, List.replicate_succ, List.flatten_cons]; simp
  rw [h]; simp [sRep]
/-- |i| ≤ k, by natural numbers -/
def smI (k : Nat) (i : Int) : Bool := Nat.ble i.natAbs k
theorem smI_of {k : Nat} {i : Int} (h : smI k i = true) : -(k : Int) ≤ i ∧ i ≤ k := by
  have := Nat.le_of_ble_eq_true h
  omega
theorem smI_mk {k : Nat} {i : Int} (h : -(k : Int) ≤ i) (h2 : i ≤ k) : smI k i = true := Nat.ble_eq_true_of_le (by omega)
def opMul : D → D → Env → Out EV
  | .int i, .int j, ρ => if smI 18446744073709551615 i = true ∨ smI 18446744073709551615 j = true then .ok (.sh (.int (i * j))) ρ else .stuck
  | .str x, .int n, ρ => if smI 2147483647 n = true ∧ x.length * n.toNat ≤ sizeLine then .ok (.sh (.str (sRep x n))) ρ else .stuck
  | .list xs, .int n, ρ => if smI 2147483647 n = true ∧ xs.length * n.toNat ≤ sizeLine then .ok (.fr (List.replicate n.toNat xs).flatten) ρ else .stuck
  | _, _, _ => .stuck
theorem Reps.rep {K : PySem.W.Frag} {H : Hp} {M : Addr → Prop} {ds : List D} {xs : List V} (h : Reps K H M ds xs) : ∀ n, Reps K H M (List.replicate n ds).flatten (List.replicate n xs).flatten
  | 0 => by simp [Reps]
  | n + 1 => by
    rw [List.replicate_succ, List.replicate_succ, List.flatten_cons, List.flatten_cons]
    exact h.append (Reps.rep h n)
theorem do_mul : DO2 X W (binaryOp .Mult) opMul := by
  refine ⟨fun s0 s da db u1 u2 Q E t hσ ra rb g => ?_⟩
  unfold opMul at g
  split at g
  · rw [ofT_int ra, ofT_int rb]
    split at g
    · rename_i hz
      exact op_mul.w ⟨_, _, rfl, rfl, hz.imp (fun z => by have := smI_of z; omega) (fun z => by have := smI_of z; omega), g.flat E t hσ rep_int⟩
    · exact g.elim
  · rename_i x n
    obtain ⟨rfl, hx⟩ := ofT_str ra
    rw [ofT_int rb]
    split at g
    · rename_i hz
      obtain ⟨h0, h3⟩ := hz
      have h1 : -(2 ^ 31) < n := by have := smI_of h0; omega
      have h2 : n < 2 ^ 31 := by have := smI_of h0; omega
      intro pins σ st v u I r1 r2
      obtain ⟨t1, rfl⟩ := r1
      obtain ⟨t2, rfl⟩ := r2
      have q : Q (.str (sRep x n)) s.H := g.flat E t hσ (rep_str (by rw [sRep_len]; exact h3))
      refine PySem.P.mul_str ?_ (fun c0 _ => ?_) (fun _ _ => ?_) ?_
      · have a1 : ¬ n < -2 ^ 63 := by omega
        have a2 : ¬ n ≥ 2 ^ 63 := by omega
        rw [decide_eq_false a1, decide_eq_false a2]; rfl
      · have hn : 0 < n := by omega
        have hle : (x.length : Int) * n ≤ 2 ^ 63 - 1 := by
          have e1 : ((x.length * n.toNat : Nat) : Int) = (x.length : Int) * n := by
            rw [Int.natCast_mul, Int.toNat_of_nonneg (by omega)]
          have e2 := sizeLine_eq
          omega
        have := (Int.le_ediv_iff_mul_le hn).mpr hle
        omega
      · show decide (_ > sizeLine) = false
        exact decide_eq_false (by omega)
      · split
        · rename_i c
          have e : sRep x n = Str.empty := by
            have : n.toNat = 0 := by omega
            simp [sRep, this, Str.empty]
          rw [e] at q
          exact ⟨by decide, .str Str.empty, s.H, I.tok _, ⟨_, rfl⟩, q⟩
        · split
          · rename_i c c2
            have e : sRep x n = x := by
              simp only [Bool.or_eq_true, beq_iff_eq] at c2
              rcases c2 with e | e
              · subst e
                simp [sRep]
              · have : x.cps.toList = [] := List.length_eq_zero_iff.mp (by rw [Array.length_toList]; exact e)
                have ex : x = ⟨x.cps.toList.toArray⟩ := by cases x; simp
                rw [ex, this]; simp [sRep]
            rw [e] at q
            exact ⟨.str x, s.H, I, ⟨_, rfl⟩, q⟩
          · rw [sRep_fold]
            have hl : (sRep x n).length ≤ sizeLine := by rw [sRep_len]; exact h3
            exact ⟨hl, .str (sRep x n), s.H, I.tok _, ⟨_, rfl⟩, q⟩
    · exact g.elim
  · rename_i ds n
    obtain ⟨a, xs, rfl, ha, qa⟩ := ofT_list ra
    rw [ofT_int rb]
    split at g
    · rename_i hz
      obtain ⟨h0, h3⟩ := hz
      have h1 : -(2 ^ 31) < n := by have := smI_of h0; omega
      have h2 : n < 2 ^ 31 := by have := smI_of h0; omega
      exact op_rep.w ⟨_, _, _, rfl, rfl, ha, by omega, by omega, by rw [qa.length]; exact h3, g.new_list E t hσ (qa.rep _)⟩
    · exact g.elim
  · exact g.elim
def opFdiv : D → D → Env → Out EV
  | .int i, .int j, ρ => if 0 < j ∧ smI 1073741823 j = true then .ok (.sh (.int (i / j))) ρ else .stuck
  | _, _, _ => .stuck
theorem do_fdiv : DO2 X W (binaryOp .FloorDiv) opFdiv := by
  refine ⟨fun s0 s da db u1 u2 Q E t hσ ra rb g => ?_⟩
  unfold opFdiv at g
  split at g
  · rw [ofT_int ra, ofT_int rb]
    split at g
    · rename_i hz
      have h2 := smI_of hz.2
      exact op_fdiv.w ⟨_, _, rfl, rfl, ⟨hz.1, by omega⟩, g.flat E t hσ rep_int⟩
    · exact g.elim
  · exact g.elim
def opMod : D → D → Env → Out EV
  | .int i, .int j, ρ => if 0 < j then .ok (.sh (.int (i % j))) ρ else .stuck
  | _, _, _ => .stuck
theorem do_mod : DO2 X W (binaryOp .Mod) opMod := by
  refine ⟨fun s0 s da db u1 u2 Q E t hσ ra rb g => ?_⟩
  unfold opMod at g
  split at g
  · rw [ofT_int ra, ofT_int rb]
    split at g
    · rename_i hz
      exact op_mod.w ⟨_, _, rfl, rfl, hz, g.flat E t hσ rep_int⟩
    · exact g.elim
  · exact g.elim
def opPow : D → D → Env → Out EV
  | .int i, .int j, ρ => if 0 ≤ j ∧ j ≤ 1000000 ∧ i.natAbs < 2 ^ 64 then .ok (.sh (.int (i ^ j.toNat))) ρ else .stuck
  | _, _, _ => .stuck
theorem do_pow : DO2 X W (binaryOp .Pow) opPow := by
  refine ⟨fun s0 s da db u1 u2 Q E t hσ ra rb g => ?_⟩
  unfold opPow at g
  split at g
  · rw [ofT_int ra, ofT_int rb]
    split at g
    · rename_i hz
      exact op_pow.w ⟨_, _, rfl, rfl, hz, g.flat E t hσ rep_int⟩
    · exact g.elim
  · exact g.elim

/-! ### comparisons -/
/-- the stack has room for nested data -/
def Cu (X : Cx) : Prop := X.A.units + 100 < cLine
def opEq (da db : D) (ρ : Env) : Out EV := if min da.depth db.depth ≤ 60 then .ok (.sh (.bool (PyData.eqv da db))) ρ else .stuck
def opNe (da db : D) (ρ : Env) : Out EV := if min da.depth db.depth ≤ 60 then .ok (.sh (.bool (!PyData.eqv da db))) ρ else .stuck
theorem do_eq (hu : Cu X) : DO2 X W (compareOp .Eq) opEq := by
  refine ⟨fun s0 s da db u1 u2 Q E t hσ ra rb g => ?_⟩
  unfold opEq at g
  split at g
  · rename_i hz
    have q := g.flat E t hσ rep_bool
    intro pins σ st v u I r1 r2
    obtain ⟨as, k1⟩ := rept_reads I ra r1
    obtain ⟨bs, k2⟩ := rept_reads I rb r2
    exact SeqAt.eq_plain k1 k2 (rept_plain ra) (rept_plain rb) (by have := hu; unfold Cu at this; omega) ⟨.bl _, s.H, I, rfl, q⟩
  · exact g.elim
theorem do_ne (hu : Cu X) : DO2 X W (compareOp .NotEq) opNe := by
  refine ⟨fun s0 s da db u1 u2 Q E t hσ ra rb g => ?_⟩
  unfold opNe at g
  split at g
  · rename_i hz
    have q := g.flat E t hσ rep_bool
    intro pins σ st v u I r1 r2
    obtain ⟨as, k1⟩ := rept_reads I ra r1
    obtain ⟨bs, k2⟩ := rept_reads I rb r2
    exact SeqAt.ne_plain k1 k2 (rept_plain ra) (rept_plain rb) (by have := hu; unfold Cu at this; omega) ⟨.bl _, s.H, I, rfl, q⟩
  · exact g.elim
def isN : D → Bool
  | .none => true
  | _ => false
theorem isN_ne {d : D} (h : isN d = false) : d ≠ .none := fun e => by subst e; cases h
def cmpOk (da db : D) : Bool := PySem.W.alike da db && !isN da && decide (min da.depth db.depth ≤ 60)
theorem cmpOk_of {da db : D} (h : cmpOk da db = true) : PySem.W.alike da db = true ∧ da ≠ .none ∧ min da.depth db.depth ≤ 60 := by
  unfold cmpOk at h
  simp only [Bool.and_eq_true, Bool.not_eq_true', decide_eq_true_eq] at h
  exact ⟨h.1.1, isN_ne h.1.2, h.2⟩
def opLt (da db : D) (ρ : Env) : Out EV := if cmpOk da db = true then .ok (.sh (.bool (PySem.W.dataLt da db))) ρ else .stuck
def opGt (da db : D) (ρ : Env) : Out EV := if cmpOk da db = true then .ok (.sh (.bool (PySem.W.dataLt db da))) ρ else .stuck
def opLe (da db : D) (ρ : Env) : Out EV := if cmpOk da db = true then .ok (.sh (.bool (!PySem.W.dataLt db da))) ρ else .stuck
def opGe (da db : D) (ρ : Env) : Out EV := if cmpOk da db = true then .ok (.sh (.bool (!PySem.W.dataLt da db))) ρ else .stuck
theorem do_lt (hu : Cu X) : DO2 X W (compareOp .Lt) opLt := by
  refine ⟨fun s0 s da db u1 u2 Q E t hσ ra rb g => ?_⟩
  unfold opLt at g
  split at g
  · rename_i hz
    obtain ⟨c1, c2, c3⟩ := cmpOk_of hz
    have q := g.flat E t hσ rep_bool
    intro pins σ st v u I r1 r2
    obtain ⟨as, k1⟩ := rept_reads I ra r1
    obtain ⟨bs, k2⟩ := rept_reads I rb r2
    exact PySem.W.lt_data k1 k2 c1 c2 (by have := hu; unfold Cu at this; omega) ⟨.bl _, s.H, I, rfl, q⟩
  · exact g.elim
theorem do_gt (hu : Cu X) : DO2 X W (compareOp .Gt) opGt := by
  refine ⟨fun s0 s da db u1 u2 Q E t hσ ra rb g => ?_⟩
  unfold opGt at g
  split at g
  · rename_i hz
    obtain ⟨c1, c2, c3⟩ := cmpOk_of hz
    have q := g.flat E t hσ rep_bool
    intro pins σ st v u I r1 r2
    obtain ⟨as, k1⟩ := rept_reads I ra r1
    obtain ⟨bs, k2⟩ := rept_reads I rb r2
    exact PySem.W.gt_data k1 k2 c1 c2 (by have := hu; unfold Cu at this; omega) ⟨.bl _, s.H, I, rfl, q⟩
  · exact g.elim
theorem do_le (hu : Cu X) : DO2 X W (compareOp .LtE) opLe := by
  refine ⟨fun s0 s da db u1 u2 Q E t hσ ra rb g => ?_⟩
  unfold opLe at g
  split at g
  · rename_i hz
    obtain ⟨c1, c2, c3⟩ := cmpOk_of hz
    have q := g.flat E t hσ rep_bool
    intro pins σ st v u I r1 r2
    obtain ⟨as, k1⟩ := rept_reads I ra r1
    obtain ⟨bs, k2⟩ := rept_reads I rb r2
    exact PySem.W.le_data k1 k2 c1 c2 (by have := hu; unfold Cu at this; omega) ⟨.bl _, s.H, I, rfl, q⟩
  · exact g.elim
theorem do_ge (hu : Cu X) : DO2 X W (compareOp .GtE) opGe := by
  refine ⟨fun s0 s da db u1 u2 Q E t hσ ra rb g => ?_⟩
  unfold opGe at g
  split at g
  · rename_i hz
    obtain ⟨c1, c2, c3⟩ := cmpOk_of hz
    have q := g.flat E t hσ rep_bool
    intro pins σ st v u I r1 r2
    obtain ⟨as, k1⟩ := rept_reads I ra r1
    obtain ⟨bs, k2⟩ := rept_reads I rb r2
    exact PySem.W.ge_data k1 k2 c1 c2 (by have := hu; unfold Cu at this; omega) ⟨.bl _, s.H, I, rfl, q⟩
  · exact g.elim
/-! ### in -/
def strIn (x y : Str) : Bool := !(Builtin.Str.occurrences y x 0 y.length 1).isEmpty
def opIn (b : Bool) : D → D → Env → Out EV
  | .str x, .str y, ρ => .ok (.sh (.bool (b != strIn x y))) ρ
  | d, .list xs, ρ => if min (PyData.depthAll xs) d.depth ≤ 60 then .ok (.sh (.bool (b != xs.any fun y => PyData.eqv y d))) ρ else .stuck
  | d, .tuple xs, ρ => if min (PyData.depthAll xs) d.depth ≤ 60 then .ok (.sh (.bool (b != xs.any fun y => PyData.eqv y d))) ρ else .stuck
  | _, _, _ => .stuck
theorem bne_true_not (k : Bool) : (true != k) = !k := by cases k <;> rfl
theorem bne_false_id (k : Bool) : (false != k) = k := by cases k <;> rfl
theorem plainAll_of_list {xs : List D} (h : (PyData.list xs).plain = true) : PyData.plainAll xs = true := by simpa only [PyData.plain] using h
theorem plainAll_of_tup {xs : List D} (h : (PyData.tuple xs).plain = true) : PyData.plainAll xs = true := by simpa only [PyData.plain] using h
theorem do_in (hu : Cu X) : DO2 X W (compareOp .In) (opIn false) := by
  refine ⟨fun s0 s da db u1 u2 Q E t hσ ra rb g => ?_⟩
  unfold opIn at g
  split at g
  · obtain ⟨rfl, _⟩ := ofT_str ra
    obtain ⟨rfl, _⟩ := ofT_str rb
    rw [bne_false_id] at g
    exact op_in_str.w ⟨_, _, rfl, rfl, g.flat E t hσ rep_bool⟩
  · split at g
    · rename_i hz
      rw [bne_false_id] at g
      have q := g.flat E t hσ rep_bool
      intro pins σ st v u I r1 r2
      obtain ⟨as, k1⟩ := rept_reads I ra r1
      obtain ⟨bs, k2⟩ := rept_reads I rb r2
      exact SeqAt.in_list_data k2 k1 (plainAll_of_list (rept_plain rb)) (rept_plain ra) (by have := hu; unfold Cu at this; omega) ⟨.bl _, s.H, I, rfl, q⟩
    · exact g.elim
  · split at g
    · rename_i hz
      rw [bne_false_id] at g
      have q := g.flat E t hσ rep_bool
      intro pins σ st v u I r1 r2
      obtain ⟨as, k1⟩ := rept_reads I ra r1
      obtain ⟨bs, k2⟩ := rept_reads I rb r2
      exact SeqAt.in_tuple_data k2 k1 (plainAll_of_tup (rept_plain rb)) (rept_plain ra) (by have := hu; unfold Cu at this; omega) ⟨.bl _, s.H, I, rfl, q⟩
    · exact g.elim
  · exact g.elim
theorem do_notin (hu : Cu X) : DO2 X W (compareOp .NotIn) (opIn true) := by
  refine ⟨fun s0 s da db u1 u2 Q E t hσ ra rb g => ?_⟩
  unfold opIn at g
  split at g
  · obtain ⟨rfl, _⟩ := ofT_str ra
    obtain ⟨rfl, _⟩ := ofT_str rb
    rw [bne_true_not] at g
    exact op_notIn_str.w ⟨_, _, rfl, rfl, g.flat E t hσ rep_bool⟩
  · split at g
    · rename_i hz
      rw [bne_true_not] at g
      have q := g.flat E t hσ rep_bool
      intro pins σ st v u I r1 r2
      obtain ⟨as, k1⟩ := rept_reads I ra r1
      obtain ⟨bs, k2⟩ := rept_reads I rb r2
      exact SeqAt.notIn_list_data k2 k1 (plainAll_of_list (rept_plain rb)) (rept_plain ra) (by have := hu; unfold Cu at this; omega) ⟨.bl _, s.H, I, rfl, q⟩
    · exact g.elim
  · split at g
    · rename_i hz
      rw [bne_true_not] at g
      have q := g.flat E t hσ rep_bool
      intro pins σ st v u I r1 r2
      obtain ⟨as, k1⟩ := rept_reads I ra r1
      obtain ⟨bs, k2⟩ := rept_reads I rb r2
      exact SeqAt.notIn_tuple_data k2 k1 (plainAll_of_tup (rept_plain rb)) (rept_plain ra) (by have := hu; unfold Cu at this; omega) ⟨.bl _, s.H, I, rfl, q⟩
    · exact g.elim
  · exact g.elim
end
end DL
namespace DL
open PySem PySem.Spec PyProof.Rows L2

/-- a def's promise where no repr runs around it -/
structure FnG (P : Program) (w : World) (K : PySem.W.Frag) (mg : Str → Option Value) (base : Heap) (k : Nat) (f : Addr) (fd : FuncData) (ps : List Str) (sp : Sp) : Prop where
  len : ∀ vs H Q E, sp vs H Q E → vs.length = ps.length
  run : ∀ (A : Around) (outer : List PySem.Env) (s : Shared) (H : Hp) (args : Args) (us : List Value) (vs : List V) (Q : VK) (E : XK), Room k A → A.guards = some [] → Env0 P w K mg base A outer s H →
    BindsTo s fd args (ps.zip us) → Vals vs us → sp vs H Q E → codeAny (model P w) A (.call (.ref f) args) (CR (L2.CX P w) outer P w H s Q E) s

section
variable {P : Program} {w : World} {K : PySem.W.Frag} {mg : Str → Option Value} {base : Heap} {j k : Nat} {f : Addr} {fd : FuncData} {ps : List Str} {sp : Sp}
theorem FnG.mono (F : FnG P w K mg base j f fd ps sp) (h : j ≤ k) : FnG P w K mg base k f fd ps sp :=
  ⟨F.len, fun A outer s H args us vs Q E hr => F.run A outer s H args us vs Q E (hr.mono h)⟩
/-- the body keeps the promise -/
theorem fng_of {name qual : Str} {params : Arguments} {body : List Stmt} {scope : Scope} {dV kV doc pm cdv ct oc : Value} {an od : Option Addr} {osl : Array (Option Value)} {N : List Str}
    (lk : K.lookup f = some ⟨oc, od, .func (PySem.W.fnOf name qual params body scope dV kV doc pm an cdv ct), osl⟩) (hcd : PySem.W.codeIn K cdv qual = true) (S : FnScope N ps scope)
    (len : ∀ vs H Q E, sp vs H Q E → vs.length = ps.length)
    (hbody : ∀ (A : Around) (outer : List PySem.Env) (s : Shared) (H : Hp) (vs : List V) (Q : VK) (E : XK), Room k (A.deeper (envOfC qual scope s.heap.objs.size f cdv)) → A.guards = some [] → sp vs H Q E →
      wSs (cxOf (L2.CX P w) P w K mg base N qual scope f cdv A outer s H E) body { nx := fun _ H' => Q .non H', rt := Q } (start N vs) H) :
    FnG P w K mg base (k + 1) f (PySem.W.fnOf name qual params body scope dV kV doc pm an cdv ct) ps sp := by
  refine ⟨len, fun A outer s H args us vs Q E hr hgd e0 hb r hsp => ?_⟩
  have hl := len _ _ _ _ hsp
  have KX : K.In s.heap := e0.mod.kin.keeps fun b o e => (e0.bs b o e).1
  have lim := e0.mod.nolimit.keeps fun b o e => (e0.bs b o e).1
  refine codeAny_call_function hr.depth (KX _ _ lk) rfl S.co S.gen rfl (PySem.W.codeRec_of KX hcd) (hb _ _ _ _ ?_)
  refine wpAny_newFunctionEnv_cells S.kind (fun y hy => ?_) fun env he s1 x => ?_
  · rcases S.par y.1 (List.of_mem_zip (show (y.1, y.2) ∈ ps.zip us from hy)).1 with q | q
    · exact .inl q
    · exact .inr ⟨q, PySem.W.cellsFrom_some _ _ _ (.inl q)⟩
  · subst he
    refine ⟨lim.keeps x.toInCall.keep, codeAny_func ?_⟩
    have ht := hbody A outer s H vs Q E (hr.deeper _) hgd hsp
    have I := inv_start (CX := L2.CX P w) (E := E) (mg := mg) (f := f) (cd := cdv) S hr.hd e0 hl r x
    refine wpAny_mono (ht [] s1 I) (fun fl s' hs => ?_) fun e s' hs => hs
    cases fl with
    | ret u =>
      obtain ⟨v, σ', H', J, rv, q⟩ := hs
      exact ⟨v, H', J.os, J.bare, J.base, J.hok, rv, q⟩
    | next =>
      obtain ⟨σ', H', J, q⟩ := hs
      exact ⟨.non, H', J.os, J.bare, J.base, J.hok, rfl, q⟩
    | brk => obtain ⟨_, _, _, q⟩ := hs; exact q.elim
    | cont => obtain ⟨_, _, _, q⟩ := hs; exact q.elim
end

section
variable {X : Cx} {k : Nat} {f : Addr} {fd : FuncData} {ps ks : List Str} {sp : Sp} {E : XK} {pins : List (Addr × Obj)} {σ : L2.St} {H : Hp} {st : Shared} {Q : VK} {us ws : List Value} {vs zs : List V}
theorem run_g (F : FnG X.prog X.w X.K X.mg X.base k f fd ps sp) (hr : Room k X.A) (hgd : X.A.guards = some []) {args : Args} (hb : (us.length = ps.length) → BindsTo st fd args (ps.zip us)) (hx : ∀ e s', L2.CX X.prog X.w X.stack H st E e s' → X.xe e s')
    (I : Inv X pins σ H st) (r : Vals vs us) (h : sp vs H Q E) : codeAny (model X.prog X.w) X.A (.call (.ref f) args) (fun r s' => match r with | .ok (.ret u) => EP X pins σ Q u s' | .ok _ => False | .error e => X.xe e s') st := by
  have hl : us.length = ps.length := by rw [← r.length]; exact F.len _ _ _ _ h
  refine codeAny_mono (F.run X.A X.stack st H args us vs Q E hr hgd I.env0 (hb hl) r h) fun o s' hq => ?_
  cases o with
  | error e => exact hx e s' hq
  | ok fl =>
    cases fl with
    | ret u => exact I.after hq
    | next => exact False.elim hq
    | brk => exact False.elim hq
    | cont => exact False.elim hq
/-- f with these values, all parameters in their order -/
def wCallF (X : Cx) (f : Addr) (vs : List V) (σ : L2.St) (H : Hp) (Q : VK) : Prop := ∀ (pins : List (Addr × Obj)) (st : Shared) (us : List Value), Inv X pins σ H st → Vals vs us → wpAny (model X.prog X.w) X.A (call (.ref f) us) (EP X pins σ Q) X.xe st
theorem wcall_g {W : WX} (tk : Takes X W) (F : FnG X.prog X.w X.K X.mg X.base k f fd ps sp) (hr : Room k X.A) (hgd : X.A.guards = some []) (hb : Binds X.K fd ps []) (h : sp vs H Q (fun cls d H' => W cls d σ H')) : wCallF X f vs σ H Q := fun pins st us I r =>
  wpAny_call (codeAny_mono (run_g F hr hgd (args := ⟨us, []⟩) (fun hl => by
    have := hb st us I.kIn (by rw [List.append_nil]; exact hl)
    rwa [List.append_nil] at this) (fun e s' c => tk e s' (XE.of_call I (fun _ _ _ z => z) c)) I r h) fun o s' hq => by
      cases o with
      | error e => exact hq
      | ok fl => cases fl with
        | ret u => exact hq
        | next => exact False.elim hq
        | brk => exact False.elim hq
        | cont => exact False.elim hq)
/-- .. some by keywords ks: G puts the values in the parameters' order -/
def wCallK (X : Cx) (f : Addr) (ks : List Str) (vs zs : List V) (σ : L2.St) (H : Hp) (Q : VK) : Prop := ∀ (pins : List (Addr × Obj)) (st : Shared) (us ws : List Value), Inv X pins σ H st → Vals vs us → Vals zs ws → wpAny (model X.prog X.w) X.A (call (.ref f) us (ks.zip ws)) (EP X pins σ Q) X.xe st
theorem wcallk_g {W : WX} {G : List Value → List Value → List Value} {GV : List V → List V → List V} (tk : Takes X W) (F : FnG X.prog X.w X.K X.mg X.base k f fd ps sp) (hr : Room k X.A) (hgd : X.A.guards = some []) (hb : KBinds X.K fd ps ks G GV) (h : sp (GV vs zs) H Q (fun cls d H' => W cls d σ H')) : wCallK X f ks vs zs σ H Q := fun pins st us ws I r r2 =>
  wpAny_call (codeAny_mono (run_g F hr hgd (args := ⟨us, ks.zip ws⟩) (us := G us ws) (fun hl => hb.to st us ws I.kIn hl) (fun e s' c => tk e s' (XE.of_call I (fun _ _ _ z => z) c)) I (hb.rel r r2) h) fun o s' hq => by
      cases o with
      | error e => exact hq
      | ok fl => cases fl with
        | ret u => exact hq
        | next => exact False.elim hq
        | brk => exact False.elim hq
        | cont => exact False.elim hq)
end

/-! ### specifications of defs -/
abbrev FD := Env → Out EV
/-- the def's promise: g gives the result and what the lent lists hold behind it -/
def spD (K : PySem.W.Frag) (mg : Str → Option Value) (n : Nat) (g : FD) : Sp := fun vs H Q E => vs.length = n ∧ ∃ (M : Addr → Prop) (args : List SV), ER K mg ⟨M, args.map some, vs.map some, H⟩ ∧ (∀ sv ∈ args, sv.own = true → sv.lent = true) ∧
  GoalK K mg (fun c d _ H' => E c d H') (REK K mg) ⟨M, args.map some, vs.map some, H⟩ (g (args.map some)) Q
def keepLent (a r : Option SV) : Option SV := match a with
  | some (.ow true _) => r
  | a => a
def outs (args ρ : Env) : Env := List.zipWith keepLent args ρ
def fnBody (n : Nat) (b : Env → Out Fl) : FD := fun args =>
  match b (args ++ List.replicate (n - args.length) none) with
  | .ok (.rt (.bo _)) _ => .stuck
  | .ok (.rt v) ρ => .ok v (outs args ρ)
  | .ok .nx ρ => .ok (.sh .none) (outs args ρ)
  | .ok _ _ => .stuck
  | .exc c fs ρ => .exc c fs (outs args ρ)
  | .stuck => .stuck
/-- what the rules ask of where one stands -/
structure DC (X : Cx) (W : WX) : Prop where
  calm : X.calm = true
  nd : X.N.Nodup
  tk : Takes X W
  po : PassesOwn (model X.prog X.w) X.A X.env X.xe
  gd : X.A.guards = some []
  hd : X.A.handled = none

section
variable {X : Cx} {W : WX} {s s0 : Sg}
theorem get_app_none {ρ : Env} {m i : Nat} {sv : SV} (h : (ρ ++ List.replicate m none)[i]? = some (some sv)) : ρ[i]? = some (some sv) := by
  by_cases hi : i < ρ.length
  · rwa [List.getElem?_append_left hi] at h
  · rw [List.getElem?_append_right (by omega), List.getElem?_replicate] at h
    split at h <;> cases h
/-- empty slots behind -/
theorem er_more {K : PySem.W.Frag} {mg : Str → Option Value} (E : ER K mg s) (m : Nat) : ER K mg ⟨s.M, s.ρ ++ List.replicate m none, s.σ ++ List.replicate m none, s.H⟩ := by
  have hs : ∀ (i : Nat) (sv : SV), s.ρ[i]? = some (some sv) → ∀ u, s.σ[i]? = u → (s.σ ++ List.replicate m none)[i]? = u := fun i sv h u hu => by
    have hi : i < s.σ.length := by rw [← E.len]; exact (List.getElem?_eq_some_iff.mp h).1
    rw [List.getElem?_append_left hi]; exact hu
  have hb : ∀ (i : Nat) (sv : SV) u, s.ρ[i]? = some (some sv) → (s.σ ++ List.replicate m none)[i]? = u → s.σ[i]? = u := fun i sv u h hu => (hs i sv h _ rfl).symm.trans hu
  refine ⟨by simp [E.len], fun i sv h => ?_, fun i j p q a e1 e2 e3 e4 e5 e6 => E.inj i j p q a (get_app_none e1) e2 (hb i p _ (get_app_none e1) e3) (get_app_none e4) e5 (hb j q _ (get_app_none e4) e6), E.live⟩
  obtain ⟨u, e, r⟩ := E.slot i sv (get_app_none h)
  refine ⟨u, hs i sv (get_app_none h) _ e, ?_⟩
  cases sv <;> exact r
theorem own_more {K : PySem.W.Frag} {mg : Str → Option Value} (E : ER K mg s) (m : Nat) {b : Addr} : (Sg.Own ⟨s.M, s.ρ ++ List.replicate m none, s.σ ++ List.replicate m none, s.H⟩ b) ↔ s.Own b := by
  have hs : ∀ (i : Nat) (sv : SV), s.ρ[i]? = some (some sv) → (s.σ ++ List.replicate m none)[i]? = s.σ[i]? := fun i sv h => by
    have hi : i < s.σ.length := by rw [← E.len]; exact (List.getElem?_eq_some_iff.mp h).1
    rw [List.getElem?_append_left hi]
  constructor
  · rintro ⟨i, sv, e1, e2, e3⟩
    have e1' := get_app_none e1
    exact ⟨i, sv, e1', e2, (hs i sv e1').symm.trans e3⟩
  · rintro ⟨i, sv, e1, e2, e3⟩
    have hi : i < s.ρ.length := (List.getElem?_eq_some_iff.mp e1).1
    exact ⟨i, sv, (List.getElem?_append_left hi).trans e1, e2, (hs i sv e1).trans e3⟩
theorem outs_get {args ρ : Env} {i : Nat} {sv : SV} (h : (outs args ρ)[i]? = some (some sv)) : (∃ ds, args[i]? = some (some (.ow true ds)) ∧ ρ[i]? = some (some sv)) ∨ (args[i]? = some (some sv) ∧ sv.lent = false) := by
  unfold outs at h
  rw [List.getElem?_zipWith] at h
  split at h
  · rename_i a r ha hr
    have h' : keepLent a r = some sv := Option.some.inj h
    unfold keepLent at h'
    split at h'
    · rename_i ds
      exact .inl ⟨ds, ha, by rw [hr, h']⟩
    · rename_i a' hn
      refine .inr ⟨by rw [ha, h'], ?_⟩
      cases sv with
      | ow b ds =>
        cases b with
        | true => exact (hn ds h').elim
        | false => rfl
      | _ => rfl
  · cases h
/-- the state behind the body, seen through the parameters -/
theorem back_outs {K : PySem.W.Frag} {mg : Str → Option Value} {M : Addr → Prop} {args : List SV} {vs : List V} {H : Hp} {m : Nat} (E0 : ER K mg ⟨M, args.map some, vs.map some, H⟩) (hl : ∀ sv ∈ args, sv.own = true → sv.lent = true) {s' : Sg} (E' : ER K mg s')
    (t : Tr ⟨M, args.map some ++ List.replicate m none, vs.map some ++ List.replicate m none, H⟩ s') :
    ER K mg ⟨s'.M, outs (args.map some) s'.ρ, vs.map some, s'.H⟩ ∧ Tr ⟨M, args.map some, vs.map some, H⟩ ⟨s'.M, outs (args.map some) s'.ρ, vs.map some, s'.H⟩ ∧
      (∀ b, Sg.Own ⟨s'.M, outs (args.map some) s'.ρ, vs.map some, s'.H⟩ b → s'.Own b) ∧ (∀ b, Sg.Own ⟨M, args.map some, vs.map some, H⟩ b → s'.Own b) := by
  have E0m := er_more E0 m
  have hlen : args.length = vs.length := by simpa using E0.len
  have hlt : ∀ i ds, (args.map some)[i]? = some (some (SV.ow true ds)) → (args.map some ++ List.replicate m none)[i]? = some (some (SV.ow true ds)) := fun i ds h => (List.getElem?_append_left (List.getElem?_eq_some_iff.mp h).1).trans h
  have hσ : ∀ i, i < args.length → (vs.map some ++ List.replicate m none)[i]? = (vs.map some)[i]? := fun i hi => List.getElem?_append_left (by simpa [← hlen] using hi)
  have argl : ∀ (i : Nat) (sv : SV), (args.map some)[i]? = some (some sv) → i < args.length ∧ sv ∈ args := fun i sv h => by
    rw [List.getElem?_map] at h
    cases q : args[i]? with
    | none => rw [q] at h; cases h
    | some a =>
      rw [q] at h
      simp at h; subst h
      exact ⟨(List.getElem?_eq_some_iff.mp q).1, List.mem_of_getElem? q⟩
  have lentTo : ∀ i ds, (args.map some)[i]? = some (some (SV.ow true ds)) → (∃ ds', s'.ρ[i]? = some (some (SV.ow true ds'))) ∧ s'.σ[i]? = (vs.map some)[i]? := fun i ds h => by
    obtain ⟨⟨sv', e1, l1⟩, e2⟩ := t.lent i _ (hlt i ds h) rfl
    refine ⟨?_, e2.trans (hσ i (argl i _ h).1)⟩
    cases sv' with
    | ow b ds' =>
      cases b with
      | true => exact ⟨ds', e1⟩
      | false => cases l1
    | _ => cases l1
  -- an own slot of the outs is a lent one
  have ownO : ∀ (i : Nat) (sv : SV), (outs (args.map some) s'.ρ)[i]? = some (some sv) → sv.own = true → s'.ρ[i]? = some (some sv) ∧ s'.σ[i]? = (vs.map some)[i]? := fun i sv h o => by
    rcases outs_get h with ⟨ds, e1, e2⟩ | ⟨e1, e2⟩
    · exact ⟨e2, (lentTo i ds e1).2⟩
    · have := hl sv (argl i sv e1).2 o
      rw [e2] at this; cases this
  have own1 : ∀ b, Sg.Own ⟨s'.M, outs (args.map some) s'.ρ, vs.map some, s'.H⟩ b → s'.Own b := by
    rintro b ⟨i, sv, e1, e2, e3⟩
    obtain ⟨f1, f2⟩ := ownO i sv e1 e2
    exact ⟨i, sv, f1, e2, f2.trans e3⟩
  have own2 : ∀ b, Sg.Own ⟨M, args.map some, vs.map some, H⟩ b → s'.Own b := by
    rintro b ⟨i, sv, e1, e2, e3⟩
    have hlent := hl sv (argl i sv e1).2 e2
    cases sv with
    | ow b' ds =>
      cases b' with
      | true =>
        obtain ⟨⟨ds', f1⟩, f2⟩ := lentTo i ds e1
        exact ⟨i, _, f1, rfl, f2.trans e3⟩
      | false => cases hlent
    | _ => cases e2
  have hge : args.length ≤ s'.ρ.length := by
    have := t.ln
    simp at this; omega
  have ext0 : ∀ b o, H b = some o → ¬ Sg.Own ⟨M, args.map some, vs.map some, H⟩ b → s'.H b = some o := fun b o h hw => t.ext b o h (fun z => hw ((own_more E0 m).mp z))
  have mt0 : ∀ b, Sg.Own ⟨M, args.map some, vs.map some, H⟩ b → ∃ xs, s'.H b = some (.lst xs) := fun b h => t.mt b ((own_more E0 m).mpr h)
  have mold0 : ∀ b o, M b → H b = some o → ¬ Sg.Own ⟨M, args.map some, vs.map some, H⟩ b → s'.M b := fun b o h ho hw => t.mold b o h ho (fun z => hw ((own_more E0 m).mp z))
  have trT : Tr ⟨M, args.map some, vs.map some, H⟩ ⟨s'.M, outs (args.map some) s'.ρ, vs.map some, s'.H⟩ := by
    refine ⟨ext0, mt0, t.mnew, mold0, fun b h => (t.own b (own1 b h)).imp (fun z => (own_more E0 m).mp z) id, fun i sv h l => ?_, by simp [outs]; omega⟩
    cases sv with
    | ow b ds =>
      cases b with
      | true =>
        obtain ⟨⟨ds', f1⟩, f2⟩ := lentTo i ds h
        refine ⟨⟨.ow true ds', ?_, rfl⟩, rfl⟩
        show (outs (args.map some) s'.ρ)[i]? = _
        unfold outs
        rw [List.getElem?_zipWith, h, f1]; rfl
      | false => cases l
    | _ => cases l
  have mvt := move_t E0 trT
  have mvl := move_l E0 trT
  refine ⟨⟨by simp [outs, ← hlen]; omega, fun i sv h => ?_, fun i j p q a e1 e2 e3 e4 e5 e6 => ?_, E'.live⟩, trT, own1, own2⟩
  · rcases outs_get h with ⟨ds, e1, e2⟩ | ⟨e1, e2⟩
    · obtain ⟨u, f1, r⟩ := E'.slot i sv e2
      refine ⟨u, (lentTo i ds e1).2.symm.trans f1, ?_⟩
      cases sv <;> exact r
    · obtain ⟨u, f1, r⟩ := E0.slot i sv e1
      refine ⟨u, f1, ?_⟩
      cases sv with
      | sh d => exact Rep.move mvt mvl d r
      | ow b ds =>
        have := hl _ (argl i _ e1).2 rfl
        rw [e2] at this; cases this
      | fn x => exact r
      | sc ns => exact ScR.tr E0 trT r
  · obtain ⟨f1, f2⟩ := ownO i p e1 e2
    obtain ⟨f3, f4⟩ := ownO j q e4 e5
    exact E'.inj i j p q a f1 e2 (f2.trans e3) f3 e5 (f4.trans e6)
/-- a def keeps its specification -/
theorem fng_body {P : Program} {w : World} {K : PySem.W.Frag} {mg : Str → Option Value} {base : Heap} {k : Nat} {f : Addr} {fd : FuncData} {x qual : Str} {c : Stmt} {N ps : List Str} {b : Env → Out Fl}
    (F : Fun K x qual c f fd) (S : FnScope N ps (defScope c))
    (hb : ∀ (X : Cx) (W : WX), X.prog = P → X.w = w → X.K = K → X.mg = mg → X.base = base → X.N = N → X.env.scope = defScope c → X.fn = (fun _ => true) → DC X W → Room k X.A → DSs X W (defBody c) b) :
    FnG P w K mg base (k + 1) f fd ps (spD K mg ps.length (fnBody N.length b)) := by
  obtain ⟨oc, od, kV, doc, pm, an, cdv, ct, osl, rfl, lk, hcd⟩ := F.ex
  refine fng_of lk hcd S (fun vs H Q E h => h.1) fun A outer s H vs Q E hr hgd ⟨hlen, M, args, E0, hl, g⟩ => ?_
  have hal : args.length = vs.length := by simpa using E0.len
  have hN : ps.length ≤ N.length := by
    have := congrArg List.length S.pre
    rw [List.length_take] at this; omega
  refine (fun (D : DSs _ (fun c d _ H' => E c d H') (defBody c) b) => ?_) (hb (cxOf (L2.CX P w) P w K mg base N qual (defScope c) f cdv A outer s H E) _ rfl rfl rfl rfl rfl rfl rfl rfl ⟨rfl, S.nd, takes_of rfl rfl rfl rfl, passes_of rfl, hgd, hr.hd⟩ hr)
  have E0m := er_more E0 (N.length - vs.length)
  refine D.run ⟨M, args.map some ++ List.replicate (N.length - vs.length) none, start N vs, H⟩ _ E0m ?_
  unfold fnBody at g
  rw [show (args.map some).length = vs.length by simpa using hal] at g
  cases q : b (args.map some ++ List.replicate (N.length - vs.length) none) with
  | ok fl ρ =>
    rw [q] at g
    cases fl with
    | nx =>
      intro σ' M' H' t' E'
      obtain ⟨a1, a2, a3, a4⟩ := back_outs E0 hl E' t'
      exact g .non M' H' a2 a1 ⟨(show Rep _ _ _ _ _ by simp only [Rep]), trivial⟩
    | rt v =>
      intro u σ' M' H' t' E' r fr
      obtain ⟨a1, a2, a3, a4⟩ := back_outs E0 hl E' t'
      cases v with
      | sh d => exact g u M' H' a2 a1 ⟨r, trivial⟩
      | fr ds =>
        obtain ⟨a, xs, e1, e2, e3, e4, e5⟩ := r
        refine g u M' H' a2 a1 ⟨⟨a, xs, e1, e2, e3, fun z => e4 (a3 a z), e5⟩, fun a' ea => ?_⟩
        rw [ea] at e1; cases e1
        rcases fr _ ea with z | z
        · exact (e4 (a4 _ ((own_more E0 _).mp z))).elim
        · exact z
      | bo i => exact g.elim
      | fn y => exact g u M' H' a2 a1 ⟨r, trivial⟩
      | sc ns => exact g u M' H' a2 a1 ⟨r, trivial⟩
    | bk => exact g.elim
    | ct => exact g.elim
  | exc c' fs ρ =>
    rw [q] at g
    intro cls d σ' M' H' t' E' r
    obtain ⟨a1, a2, a3, a4⟩ := back_outs E0 hl E' t'
    exact g cls d M' H' a2 a1 r
  | stuck => rw [q] at g; exact g.elim
end
end DL
namespace DL
open PySem PySem.Spec PyProof.Rows L2

/-! ### arguments -/
def argv : EV → EV
  | .fr ds => .sh (.list ds)
  | v => v
def REs (X : Cx) (H0 : Hp) (s : Sg) (vs : List EV) (us : List V) : Prop := Paired (fun v u => EVR X.K X.mg s v u) vs us
structure DEs (X : Cx) (W : WX) (e : List Expr) (f : Env → Out (List EV)) : Prop where
  run : ∀ s Q, ER X.K X.mg s → Goal X W (REs X) s (f s.ρ) Q → wA X e s.σ s.H Q
def dArg (f : Env → Out EV) : Env → Out EV := fun ρ => (f ρ).bind fun v ρ1 => .ok (argv v) ρ1
def fNil : Env → Out (List EV) := fun ρ => .ok [] ρ
def fCons (f : Env → Out EV) (g : Env → Out (List EV)) : Env → Out (List EV) := fun ρ => (dArg f ρ).bind fun v ρ1 => (g ρ1).bind fun vs ρ2 => .ok (v :: vs) ρ2

section
variable {X : Cx} {W : WX} {s s0 s1 : Sg}
theorem DE.arg {e : Expr} {f : Env → Out EV} (h : DE X W e f) : DE X W e (dArg f) := by
  refine ⟨fun s Q E g => ?_⟩
  refine (h.run s _ E (GoalK.bind0 E g)).mono fun u H2 ⟨v, s2, hσ, hH, _, t, _, E2, ⟨r, fr⟩, g2⟩ => ?_
  subst hH
  cases v with
  | sh d => exact g2.fin hσ t E2 ⟨r, trivial⟩
  | fr ds =>
    obtain ⟨a, xs, e1, hh, hm, hn, q⟩ := r
    subst e1
    refine g2.fin (s2 := ⟨fun b => s2.M b ∧ b ≠ a, s2.ρ, s2.σ, s2.H⟩) hσ (tr_drop t (fr a rfl)) (er_drop E2 hn) ⟨?_, trivial⟩
    show Rep _ _ _ _ _
    simp only [Rep]
    exact ⟨a, xs, rfl, hh, fun z => z.2 rfl, reps_drop q⟩
  | bo i => exact g2.fin hσ t E2 ⟨r, trivial⟩
  | fn x => exact g2.fin hσ t E2 ⟨r, trivial⟩
  | sc ns => exact g2.fin hσ t E2 ⟨r, trivial⟩
theorem evrs_tr (E : ER X.K X.mg s) (t : Tr s s1) (hσ : s1.σ = s.σ) : ∀ {vs : List EV} {us : List V}, Paired (fun v u => EVR X.K X.mg s v u) vs us → Paired (fun v u => EVR X.K X.mg s1 v u) vs us
  | _, _, .nil => .nil
  | _, _, .cons h r => .cons (EVR.tr E t hσ h) (evrs_tr E t hσ r)
theorem des_nil : DEs X W [] fNil := ⟨fun s Q E g => pa_nil.w (show tNil s.σ s.H Q from g.fin (s2 := s) rfl (Tr.refl E) E .nil)⟩
theorem des_cons {e : Expr} {es : List Expr} {f : Env → Out EV} {g : Env → Out (List EV)} (h : DE X W e f) (ht : DEs X W es g) (hs : starEach (e :: es) X.env = (false, eval e X.env) :: starEach es X.env := by rfl) : DEs X W (e :: es) (fCons f g) := by
  refine ⟨fun s Q E gg => (pa_cons (pe_w e) (pa_w es) hs).w ?_⟩
  refine (h.arg.run s _ E (GoalK.bind0 E gg)).mono fun u1 H1 ⟨v1, s1, hσ, hH, _, t1, _, E1, ⟨r1, fr1⟩, g1⟩ => ?_
  subst hH
  rw [← hσ]
  refine (ht.run s1 _ E1 (GoalK.bind t1 hσ g1)).mono fun u2 H2 ⟨v2, s2, hσ2, hH2, _, t2, t12, E2, r2, g2⟩ => ?_
  subst hH2
  exact g2.fin (hσ2.trans hσ) t2 E2 (.cons (EVR.tr E1 t12 hσ2 r1) r2)
end

/-! ### a call of a def -/
def svOf : EV → Env → Option SV
  | .sh d, _ => some (.sh d)
  | .fn x, _ => some (.fn x)
  | .sc ns, _ => some (.sc ns)
  | .fr _, _ => none
  | .bo i, ρ => match ρ[i]? with
    | some (some (.ow _ ds)) => some (.ow true ds)
    | _ => none
def svsOf : List EV → Env → Option (List SV)
  | [], _ => some []
  | v :: vs, ρ => match svOf v ρ, svsOf vs ρ with
    | some a, some as => some (a :: as)
    | _, _ => none
def isBo (i : Nat) : EV → Bool
  | .bo j => j == i
  | _ => false
def apartB : List EV → Bool
  | [] => true
  | .bo i :: vs => !(vs.any (isBo i)) && apartB vs
  | _ :: vs => apartB vs
def lookB (j : Nat) : List EV → Env → Option (List D)
  | .bo i :: vs, o :: os => if i = j then (match o with | some (.ow true ds) => some ds | _ => none) else lookB j vs os
  | _ :: vs, _ :: os => lookB j vs os
  | _, _ => none
def backAt (vs : List EV) (os : Env) (j : Nat) (old : Option SV) : Option SV := match old with
  | some (.ow b ds) => (match lookB j vs os with
    | some ds' => some (.ow b ds')
    | none => some (.ow b ds))
  | x => x
def putBack (vs : List EV) (os ρ : Env) : Env := ρ.mapIdx (backAt vs os)
def dCall (g : FD) (vs : List EV) (ρ : Env) : Out EV := if apartB vs = true then
    match svsOf vs ρ with
    | some args => (match g (args.map some) with
      | .ok (.bo _) _ => .stuck
      | .ok r os => .ok r (putBack vs os ρ)
      | .exc c fs os => .exc c fs (putBack vs os ρ)
      | .stuck => .stuck)
    | none => .stuck
  else .stuck

section
variable {X : Cx} {W : WX} {s s0 s1 : Sg}
theorem svsOf_get : ∀ {vs : List EV} {ρ : Env} {args : List SV} {k : Nat} {sv : SV}, svsOf vs ρ = some args → args[k]? = some sv → ∃ v, vs[k]? = some v ∧ svOf v ρ = some sv
  | [], _, _, _, _, h, e => by simp [svsOf] at h; subst h; simp at e
  | v :: vs, ρ, args, k, sv, h, e => by
    simp only [svsOf] at h
    split at h
    · rename_i a as e1 e2
      cases h
      cases k with
      | zero => simp at e; subst e; exact ⟨v, rfl, e1⟩
      | succ k =>
        obtain ⟨w, h1, h2⟩ := svsOf_get (k := k) e2 (by simpa using e)
        exact ⟨w, by simpa using h1, h2⟩
    · cases h
theorem svsOf_len : ∀ {vs : List EV} {ρ : Env} {args : List SV}, svsOf vs ρ = some args → args.length = vs.length
  | [], _, _, h => by simp [svsOf] at h; subst h; rfl
  | v :: vs, ρ, args, h => by
    simp only [svsOf] at h
    split at h
    · rename_i a as e1 e2
      cases h
      simp [svsOf_len e2]
    · cases h
theorem svsOf_get' {vs : List EV} {ρ : Env} {args : List SV} {k : Nat} {v : EV} (h : svsOf vs ρ = some args) (e : vs[k]? = some v) : ∃ sv, args[k]? = some sv ∧ svOf v ρ = some sv := by
  have hk : k < args.length := by rw [svsOf_len h]; exact (List.getElem?_eq_some_iff.mp e).1
  obtain ⟨v', e1, e2⟩ := svsOf_get h (List.getElem?_eq_getElem hk)
  rw [e] at e1; cases e1
  exact ⟨_, List.getElem?_eq_getElem hk, e2⟩
theorem not_any_bo {i : Nat} : ∀ {vs : List EV}, vs.any (isBo i) = false → ∀ (k : Nat), vs[k]? ≠ some (EV.bo i)
  | [], _, k => by simp
  | v :: vs, h, k => by
    simp only [List.any_cons, Bool.or_eq_false_iff] at h
    cases k with
    | zero =>
      intro e
      simp at e; subst e
      simp [isBo] at h
    | succ k => simpa using not_any_bo h.2 k
theorem apart_uniq {i : Nat} : ∀ {vs : List EV} {k l : Nat}, apartB vs = true → vs[k]? = some (.bo i) → vs[l]? = some (.bo i) → k = l
  | [], k, l, _, e, _ => by simp at e
  | v :: vs, k, l, h, e1, e2 => by
    have tl : apartB vs = true := by
      cases v <;> simp [apartB] at h <;> first | exact h | exact h.2
    cases k with
    | zero =>
      simp at e1; subst e1
      cases l with
      | zero => rfl
      | succ l =>
        simp only [apartB, Bool.and_eq_true, Bool.not_eq_true'] at h
        exact (not_any_bo h.1 l (by simpa using e2)).elim
    | succ k =>
      cases l with
      | zero =>
        simp at e2; subst e2
        simp only [apartB, Bool.and_eq_true, Bool.not_eq_true'] at h
        exact (not_any_bo h.1 k (by simpa using e1)).elim
      | succ l => exact congrArg (· + 1) (apart_uniq (i := i) tl (by simpa using e1) (by simpa using e2))
theorem lookB_some {j : Nat} {ds : List D} : ∀ {vs : List EV} {os : Env}, lookB j vs os = some ds → ∃ (k : Nat), vs[k]? = some (EV.bo j) ∧ os[k]? = some (some (SV.ow true ds))
  | [], os, h => by simp [lookB] at h
  | v :: vs, [], h => by cases v <;> simp [lookB] at h
  | v :: vs, o :: os, h => by
    have step : lookB j vs os = some ds → ∃ (k : Nat), (v :: vs)[k]? = some (EV.bo j) ∧ (o :: os)[k]? = some (some (SV.ow true ds)) := fun h => by
      obtain ⟨k, e1, e2⟩ := lookB_some h
      exact ⟨k + 1, by simpa using e1, by simpa using e2⟩
    cases v with
    | bo i =>
      simp only [lookB] at h
      split at h
      · rename_i e
        subst e
        split at h
        · rename_i ds' 
          cases h
          exact ⟨0, rfl, rfl⟩
        · cases h
      · exact step h
    | sh d => exact step h
    | fr d => exact step h
    | fn x => exact step h
    | sc ns => exact step h
theorem lookB_of {j : Nat} {ds : List D} : ∀ {vs : List EV} {os : Env} {k : Nat}, apartB vs = true → vs[k]? = some (.bo j) → os[k]? = some (some (.ow true ds)) → lookB j vs os = some ds
  | [], os, k, _, e, _ => by simp at e
  | v :: vs, [], k, _, _, e => by simp at e
  | v :: vs, o :: os, 0, _, e1, e2 => by
    simp at e1 e2; subst e1; subst e2
    simp [lookB]
  | v :: vs, o :: os, k + 1, h, e1, e2 => by
    have tl : apartB vs = true := by
      cases v <;> simp [apartB] at h <;> first | exact h | exact h.2
    have ih := lookB_of (k := k) tl (by simpa using e1) (by simpa using e2)
    cases v with
    | bo i =>
      simp only [lookB]
      rw [if_neg]
      · exact ih
      · intro z
        subst z
        simp only [apartB, Bool.and_eq_true, Bool.not_eq_true'] at h
        exact not_any_bo h.1 k (by simpa using e1)
    | sh d => exact ih
    | fr d => exact ih
    | fn x => exact ih
    | sc ns => exact ih
theorem paired_get {α β : Type} {F : α → β → Prop} : ∀ {l : List α} {m : List β} {k : Nat} {a : α}, Paired F l m → l[k]? = some a → ∃ b, m[k]? = some b ∧ F a b
  | _, _, _, _, .nil, e => by simp at e
  | _, _, 0, _, .cons h r, e => by simp at e; subst e; exact ⟨_, rfl, h⟩
  | _, _, k + 1, _, .cons h r, e => by
    obtain ⟨b, h1, h2⟩ := paired_get (k := k) r (by simpa using e)
    exact ⟨b, by simpa using h1, h2⟩
theorem paired_len {α β : Type} {F : α → β → Prop} : ∀ {l : List α} {m : List β}, Paired F l m → l.length = m.length
  | _, _, .nil => rfl
  | _, _, .cons _ r => by simp [paired_len r]
/-- the callee's view of the arguments -/
theorem er_args {vs : List EV} {us : List V} {args : List SV} (E : ER X.K X.mg s) (R : Paired (fun v u => EVR X.K X.mg s v u) vs us) (ap : apartB vs = true) (ha : svsOf vs s.ρ = some args) :
    ER X.K X.mg ⟨s.M, args.map some, us.map some, s.H⟩ ∧ (∀ sv ∈ args, sv.own = true → sv.lent = true) ∧
      (∀ (k : Nat) (sv : SV), args[k]? = some sv → sv.own = true → ∃ i ds b, sv = .ow true ds ∧ vs[k]? = some (.bo i) ∧ s.ρ[i]? = some (some (.ow b ds)) ∧ (us.map some)[k]? = s.σ[i]?) := by
  have ownI : ∀ (k : Nat) (sv : SV), args[k]? = some sv → sv.own = true → ∃ i ds b, sv = .ow true ds ∧ vs[k]? = some (.bo i) ∧ s.ρ[i]? = some (some (.ow b ds)) ∧ (us.map some)[k]? = s.σ[i]? := fun k sv e o => by
    obtain ⟨v, e1, e2⟩ := svsOf_get ha e
    obtain ⟨u, e3, r⟩ := paired_get R e1
    cases v with
    | bo i =>
      simp only [svOf] at e2
      split at e2
      · rename_i b ds hi
        cases e2
        refine ⟨i, ds, b, rfl, e1, hi, ?_⟩
        rw [List.getElem?_map, e3]
        exact (show s.σ[i]? = some (some u) from r).symm
      · cases e2
    | sh d => simp [svOf] at e2; subst e2; cases o
    | fr d => simp [svOf] at e2
    | fn x => simp [svOf] at e2; subst e2; cases o
    | sc ns => simp [svOf] at e2; subst e2; cases o
  have argG : ∀ (k : Nat) (sv : SV), (args.map some)[k]? = some (some sv) → args[k]? = some sv := fun k sv h => by
    rw [List.getElem?_map] at h
    cases q : args[k]? with
    | none => rw [q] at h; cases h
    | some a => rw [q] at h; simp at h; rw [h]
  refine ⟨⟨?_, fun k sv e => ?_, fun k l p q a e1 e2 e3 e4 e5 e6 => ?_, E.live⟩, fun sv hm o => ?_, ownI⟩
  · simp [svsOf_len ha, paired_len R]
  · obtain ⟨v, e1, e2⟩ := svsOf_get ha (argG k sv e)
    obtain ⟨u, e3, r⟩ := paired_get R e1
    refine ⟨u, by show (us.map some)[k]? = _; rw [List.getElem?_map, e3]; rfl, ?_⟩
    cases v with
    | bo i =>
      simp only [svOf] at e2
      split at e2
      · rename_i b ds hi
        cases e2
        obtain ⟨u', e4, q⟩ := E.slot i _ hi
        have : s.σ[i]? = some (some u) := r
        rw [this] at e4; cases e4
        exact q
      · cases e2
    | sh d => simp [svOf] at e2; subst e2; exact r
    | fr d => simp [svOf] at e2
    | fn x => simp [svOf] at e2; subst e2; exact r
    | sc ns => simp [svOf] at e2; subst e2; exact r
  · obtain ⟨i, ds, b, _, f1, f2, f3⟩ := ownI k p (argG k p e1) e2
    obtain ⟨j, ds', b', _, h1, h2, h3⟩ := ownI l q (argG l q e4) e5
    have ij : i = j := E.inj i j _ _ a f2 rfl (f3.symm.trans e3) h2 rfl (h3.symm.trans e6)
    subst ij
    exact apart_uniq ap f1 h1
  · obtain ⟨k, hk⟩ := List.getElem?_of_mem hm
    obtain ⟨i, ds, b, e, _⟩ := ownI k sv hk o
    subst e; rfl
theorem putBack_get {vs : List EV} {os ρ : Env} {j : Nat} : (putBack vs os ρ)[j]? = (ρ[j]?).map (backAt vs os j) := by
  unfold putBack
  rw [List.getElem?_mapIdx]
/-- the caller's view behind the call -/
theorem call_back {vs : List EV} {us : List V} {args : List SV} {M' : Addr → Prop} {os : Env} {H' : Hp} (E : ER X.K X.mg s) (R : Paired (fun v u => EVR X.K X.mg s v u) vs us) (ap : apartB vs = true) (ha : svsOf vs s.ρ = some args)
    (EA : ER X.K X.mg ⟨M', os, us.map some, H'⟩) (TA : Tr ⟨s.M, args.map some, us.map some, s.H⟩ ⟨M', os, us.map some, H'⟩) :
    ER X.K X.mg ⟨M', putBack vs os s.ρ, s.σ, H'⟩ ∧ Tr s ⟨M', putBack vs os s.ρ, s.σ, H'⟩ ∧ (∀ b, Sg.Own ⟨M', putBack vs os s.ρ, s.σ, H'⟩ b → s.Own b) := by
  obtain ⟨EA0, hl, ownI⟩ := er_args E R ap ha
  have argG : ∀ (k : Nat) (sv : SV), (args.map some)[k]? = some (some sv) → args[k]? = some sv := fun k sv h => by
    rw [List.getElem?_map] at h
    cases q : args[k]? with
    | none => rw [q] at h; cases h
    | some a => rw [q] at h; simp at h; rw [h]
  have own1 : ∀ b, Sg.Own ⟨s.M, args.map some, us.map some, s.H⟩ b → s.Own b := by
    rintro b ⟨k, sv, e1, e2, e3⟩
    obtain ⟨i, ds, b', _, f1, f2, f3⟩ := ownI k sv (argG k sv e1) e2
    exact ⟨i, _, f2, rfl, f3.symm.trans e3⟩
  -- what slot j holds
  have slotJ : ∀ (j : Nat) (sv : SV), (putBack vs os s.ρ)[j]? = some (some sv) → (∃ (b : Bool) (ds ds' : List D) (k : Nat), s.ρ[j]? = some (some (SV.ow b ds)) ∧ sv = .ow b ds' ∧ vs[k]? = some (EV.bo j) ∧ os[k]? = some (some (SV.ow true ds'))) ∨ (s.ρ[j]? = some (some sv) ∧ (sv.own = true → lookB j vs os = none)) := fun j sv h => by
    rw [putBack_get] at h
    cases q : s.ρ[j]? with
    | none => rw [q] at h; cases h
    | some o =>
      rw [q] at h
      have h' : backAt vs os j o = some sv := Option.some.inj h
      unfold backAt at h'
      split at h'
      · rename_i b ds
        split at h'
        · rename_i ds' hk
          cases h'
          obtain ⟨k, e1, e2⟩ := lookB_some hk
          exact .inl ⟨b, ds, ds', k, rfl, rfl, e1, e2⟩
        · rename_i hk
          cases h'
          exact .inr ⟨rfl, fun _ => hk⟩
      · rename_i hn
        subst h'
        refine .inr ⟨rfl, fun o => ?_⟩
        cases sv with
        | ow b ds => exact (hn b ds rfl).elim
        | _ => cases o
  have notA : ∀ (j : Nat) (b : Bool) (ds : List D) (a : Addr), s.ρ[j]? = some (some (.ow b ds)) → lookB j vs os = none → s.σ[j]? = some (some (.ref a)) → ¬ Sg.Own ⟨s.M, args.map some, us.map some, s.H⟩ a := by
    rintro j b ds a hj hk hσ ⟨k, sv, e1, e2, e3⟩
    obtain ⟨i, ds1, b1, es, f1, f2, f3⟩ := ownI k sv (argG k sv e1) e2
    have ij : i = j := E.inj i j _ _ a f2 rfl (f3.symm.trans e3) hj rfl hσ
    subst ij
    subst es
    obtain ⟨⟨sv', g1, g2⟩, _⟩ := TA.lent k _ e1 rfl
    cases sv' with
    | ow b2 ds2 =>
      cases b2 with
      | true =>
        have := lookB_of ap f1 g1
        rw [hk] at this; cases this
      | false => cases g2
    | _ => cases g2
  have ownSub : ∀ b, Sg.Own ⟨M', putBack vs os s.ρ, s.σ, H'⟩ b → s.Own b := by
    rintro b ⟨j, sv, e1, e2, e3⟩
    rcases slotJ j sv e1 with ⟨b', ds, ds', k, f1, f2, _, _⟩ | ⟨f1, _⟩
    · exact ⟨j, _, f1, rfl, e3⟩
    · exact ⟨j, sv, f1, e2, e3⟩
  have ext : ∀ b o, s.H b = some o → ¬ s.Own b → H' b = some o := fun b o h hw => TA.ext b o h fun z => hw (own1 b z)
  have mv := move_t EA0 TA
  have ml := move_l EA0 TA
  refine ⟨⟨by simpa [putBack] using E.len, fun j sv e => ?_, fun i j p q a e1 e2 e3 e4 e5 e6 => ?_, EA.live⟩, ⟨ext, fun b h => ?_, TA.mnew, fun b o h ho hw => TA.mold b o h ho fun z => hw (own1 b z), fun b h => .inl (ownSub b h), fun j sv e l => ?_, by simp [putBack]⟩, ownSub⟩
  · rcases slotJ j sv e with ⟨b', ds, ds', k, f1, f2, f3, f4⟩ | ⟨f1, f2⟩
    · obtain ⟨u, e3, r⟩ := paired_get R f3
      obtain ⟨u', e4, q⟩ := EA.slot k _ f4
      have e4 : (us.map some)[k]? = some (some u') := e4
      rw [List.getElem?_map, e3] at e4
      simp at e4; subst e4
      subst f2
      exact ⟨u, r, q⟩
    · obtain ⟨u, e3, r⟩ := E.slot j sv f1
      refine ⟨u, e3, ?_⟩
      cases sv with
      | sh d => exact Rep.move mv ml d r
      | ow b ds =>
        obtain ⟨a, xs, e4, hh, hm, q⟩ := r
        subst e4
        have na := notA j b ds a f1 (f2 rfl) e3
        exact ⟨a, xs, rfl, TA.ext a _ hh na, TA.mold a _ hm hh na, Reps.move mv ml ds q⟩
      | fn x => exact r
      | sc ns => exact ScR.tr EA0 TA r
  · have f : ∀ (j : Nat) (sv : SV), (putBack vs os s.ρ)[j]? = some (some sv) → sv.own = true → ∃ sv', s.ρ[j]? = some (some sv') ∧ sv'.own = true := fun j sv e o => by
      rcases slotJ j sv e with ⟨b', ds, ds', k, f1, f2, _, _⟩ | ⟨f1, _⟩
      · exact ⟨_, f1, rfl⟩
      · exact ⟨sv, f1, o⟩
    obtain ⟨p', f1, f2⟩ := f i p e1 e2
    obtain ⟨q', f3, f4⟩ := f j q e4 e5
    exact E.inj i j p' q' a f1 f2 e3 f3 f4 e6
  · by_cases hw : Sg.Own ⟨s.M, args.map some, us.map some, s.H⟩ b
    · exact TA.mt b hw
    · obtain ⟨_, xs, e⟩ := E.own_lst h
      exact ⟨xs, TA.ext b _ e hw⟩
  · refine ⟨?_, rfl⟩
    show ∃ sv', (putBack vs os s.ρ)[j]? = some (some sv') ∧ sv'.lent = true
    rw [putBack_get, e]
    cases sv with
    | ow b ds =>
      cases b with
      | true =>
        simp only [Option.map_some, backAt]
        split
        · exact ⟨_, rfl, rfl⟩
        · exact ⟨_, rfl, rfl⟩
      | false => cases l
    | _ => cases l
/-- the call's end -/
theorem call_goal {vs : List EV} {us : List V} {g : FD} {n : Nat} {Q : VK} (E : ER X.K X.mg s) (t : Tr s0 s) (hσ : s.σ = s0.σ) (R : Paired (fun v u => EVR X.K X.mg s v u) vs us) (hn : vs.length = n) (gg : Goal X W (RE X) s0 (dCall g vs s.ρ) Q) :
    spD X.K X.mg n g us s.H Q (fun cls d H' => W cls d s0.σ H') := by
  unfold dCall at gg
  split at gg
  · rename_i ap
    split at gg
    · rename_i args ha
      obtain ⟨EA0, hl, _⟩ := er_args E R ap ha
      refine ⟨by rw [← paired_len R]; exact hn, s.M, args, EA0, hl, ?_⟩
      cases q : g (args.map some) with
      | ok r os =>
        rw [q] at gg
        intro u M' H' TA EA ⟨rv, fr⟩
        obtain ⟨b1, b2, b3⟩ := call_back E R ap ha EA TA
        have fin : ∀ (r' : EV), Goal X W (RE X) s0 (.ok r' (putBack vs os s.ρ)) Q → RE X s0.H ⟨M', putBack vs os s.ρ, s.σ, H'⟩ r' u → Q u H' := fun r' g' h => g'.fin (s2 := ⟨M', putBack vs os s.ρ, s.σ, H'⟩) hσ (t.trans b2) b1 h
        cases r with
        | sh d => exact fin _ gg ⟨rv, trivial⟩
        | fr ds =>
          obtain ⟨a, xs, e1, e2, e3, e4, e5⟩ := rv
          refine fin _ gg ⟨⟨a, xs, e1, e2, e3, fun z => ?_, e5⟩, fun a' e => t.none_back (fr a' e)⟩
          obtain ⟨_, ys, e6⟩ := E.own_lst (b3 a z)
          have := fr a e1
          rw [show s.H a = none from this] at e6; cases e6
        | bo i => exact gg.elim
        | fn x => exact fin _ gg ⟨rv, trivial⟩
        | sc ns => exact fin _ gg ⟨rv, trivial⟩
      | exc c fs os =>
        rw [q] at gg
        intro cls d M' H' TA EA r
        obtain ⟨b1, b2, b3⟩ := call_back E R ap ha EA TA
        obtain ⟨M0, ρ0, σ0, H0⟩ := s0
        cases hσ
        exact gg cls d M' H' (t.trans b2) b1 r
      | stuck => rw [q] at gg; exact gg.elim
    · exact gg.elim
  · exact gg.elim
/-- the callee by its name -/
structure Callee (X : Cx) (x : Str) (k : Nat) (n : Nat) (g : FD) : Prop where
  ex : ∃ (f : Addr) (fd : FuncData) (ps : List Str), ps.length = n ∧ FnG X.prog X.w X.K X.mg X.base k f fd ps (spD X.K X.mg n g) ∧ X.mg x = some (.ref f) ∧ PySem.W.keepIn X.K (.ref f) = true ∧ Binds X.K fd ps []
def dCallN (n : Nat) (g : FD) (vs : List EV) (ρ : Env) : Out EV := if vs.length = n then dCall g vs ρ else .stuck
def fCall (n : Nat) (g : FD) (fa : Env → Out (List EV)) : Env → Out EV := fun ρ => (fa ρ).bind (dCallN n g)
theorem de_call {x : Str} {k n : Nat} {g : FD} {e : Expr} {es : List Expr} {fa : Env → Out (List EV)} {p pos : Pos} (C : DC X W) (F : Callee X x k n g) (hr : Room k X.A) (hg : Gl X x) (ha : DEs X W (e :: es) fa)
    (hdb : (x == ("__debug__" : Str)) = false := by decide) (he : starEach (e :: es) X.env = (false, eval e X.env) :: starEach es X.env := by rfl) (hpl : (backTo pos (starEach es X.env)).any (·.1) = false := by rfl) :
    DE X W (.Call (.Name x p) (e :: es) [] pos) (fCall n g fa) := by
  obtain ⟨f, fd, ps, hn, F, hm, hk, hb⟩ := F.ex
  refine ⟨fun s Q E gg pins st I => ?_⟩
  refine wpAny_Call_Name_kw (ld_glob I hg hm ?_ hdb)
  have h1 := ha.run s _ E (GoalK.bind0 E gg) pos pins st I
  refine PySem.W.callWith_K (h₀ := X.base) I.ok.mod.kin hk (thn h1 fun us s1 ⟨vs, H1, I1, r, v, s2, hσ, hH, _, t, _, E2, R, g2⟩ => ⟨I1.kIn, ?_⟩) he hpl
  subst hH
  unfold dCallN at g2
  split at g2
  · rename_i hl
    rw [← hσ] at I1 ⊢
    refine wcall_g C.tk F hr C.gd hb ?_ pins s1 us I1 r
    have := call_goal E2 t hσ R hl g2
    rw [hσ]; exact this
  · exact g2.elim
theorem de_call0 {x : Str} {k : Nat} {g : FD} {p pos : Pos} (C : DC X W) (F : Callee X x k 0 g) (hr : Room k X.A) (hg : Gl X x) (hdb : (x == ("__debug__" : Str)) = false := by decide) : DE X W (.Call (.Name x p) [] [] pos) (fCall 0 g fNil) := by
  obtain ⟨f, fd, ps, hn, F, hm, hk, hb⟩ := F.ex
  refine ⟨fun s Q E gg pins st I => ?_⟩
  refine wpAny_Call_Name_kw (ld_glob I hg hm ?_ hdb)
  refine PySem.W.callWith_K0 I.kIn hk ?_
  have gg : Goal X W (RE X) s (dCallN 0 g [] s.ρ) Q := gg
  exact wcall_g C.tk F hr C.gd hb (call_goal E (Tr.refl E) rfl .nil rfl gg) pins st [] I .nil
end
end DL
namespace DL
open PySem PySem.Spec PyProof.Rows L2

section
variable {X : Cx} {W : WX} {s s0 s1 : Sg}
/-! ### tests -/
def truD : D → Bool
  | .none => false
  | .bool b => b
  | .int i => i != 0
  | .str x => (x.length : Int) != 0
  | .list xs => !xs.isEmpty
  | .tuple xs => !xs.isEmpty
  | .dict _ => false
def tru (v : EV) (ρ : Env) : Out Bool := match rd v ρ with
  | some d => .ok (truD d) ρ
  | none => .stuck
def fTru (f : Env → Out EV) : Env → Out Bool := fun ρ => (f ρ).bind tru
theorem isEmpty_reps {K : PySem.W.Frag} {H : Hp} {M : Addr → Prop} {ds : List D} {xs : List V} (h : Reps K H M ds xs) : (!xs.isEmpty) = !ds.isEmpty := by
  cases ds with
  | nil => rw [reps_nil_inv h]; rfl
  | cons d ds => obtain ⟨x, r, e, _⟩ := reps_inv h; subst e; rfl
theorem truV_of {K : PySem.W.Frag} {H : Hp} {M : Addr → Prop} {d : D} {u : V} (h : RepT K H M d u) : TruV K u H (truD d) := by
  cases d with
  | none => rw [ofS_none h.s]; rfl
  | bool b => rw [ofS_bool h.s]; rfl
  | int i => rw [ofT_int h]; rfl
  | str x => obtain ⟨rfl, hz⟩ := ofT_str h; exact ⟨hz, rfl⟩
  | list ds => obtain ⟨a, xs, rfl, ha, q⟩ := ofT_list h; exact .inl ⟨xs, .of ha, (isEmpty_reps q).symm⟩
  | tuple ds => obtain ⟨a, xs, rfl, ha, q⟩ := ofT_tup h; exact .inr (.inl ⟨xs, ha, (isEmpty_reps q).symm⟩)
  | dict kvs => exact (by simpa only [RepT, Rep] using h : False).elim
theorem dt_truth {e : Expr} {f : Env → Out EV} (h : DE X W e f) (he : ∀ whole, isTrue e X.env whole = (do let v ← whole; standAt e.pos; holding [v] (truthy v)) := by intro _; rfl) : DT X W e (fTru f) := by
  refine ⟨fun s Q E g => (pt_truth (pe_w e) he).w ?_⟩
  refine (h.run s _ E (GoalK.bind0 E g)).mono fun u H2 ⟨v, s2, hσ, hH, _, t, _, E2, ⟨r, fr⟩, g2⟩ => ?_
  subst hH
  unfold tru at g2
  split at g2
  · rename_i d ed
    exact ⟨truD d, truV_of (rd_ok E2 r ed), g2.fin hσ t E2 rfl⟩
  · exact g2.elim
def boolV (v : EV) (ρ : Env) : Out Bool := match v with
  | .sh (.bool b) => .ok b ρ
  | _ => .stuck
def fBool (f : Env → Out EV) : Env → Out Bool := fun ρ => (f ρ).bind boolV
theorem dt_cmp {a b : Expr} {fa fb : Env → Out EV} {o : CmpOp} {op : D → D → Env → Out EV} {pos : Pos} (ho : DO2 X W (compareOp o) op) (ha : DE X W a fa) (hb : DE X W b fb) (hm : behindInMarks o b = false := by rfl) : DT X W (.Compare a [o] [b] pos) (fBool (fBin op fa fb)) := by
  refine ⟨fun s Q E g => (pt_cmpR opr_w (pe_w a) (pe_w b) hm).w ?_⟩
  refine bin_core ho ha hb E ((GoalK.bind0 E g).mono fun u H2 ⟨v, s2, hσ, hH, _, t, _, E2, ⟨r, fr⟩, g2⟩ => ?_)
  subst hH
  unfold boolV at g2
  split at g2
  · exact ⟨_, ofS_bool (Rep.top (show Rep _ _ _ _ _ from r)).s, g2.fin hσ t E2 rfl⟩
  · exact g2.elim
/-- a is None, a is not None -/
def isNV (b : Bool) (v : EV) (ρ : Env) : Out EV := match v with
  | .sh d => .ok (.sh (.bool (b != isN d))) ρ
  | .fr _ => .ok (.sh (.bool (b != false))) ρ
  | _ => .stuck
def fIsN (b : Bool) (f : Env → Out EV) : Env → Out EV := fun ρ => (f ρ).bind (isNV b)
theorem dec_non {K : PySem.W.Frag} {H : Hp} {M : Addr → Prop} {d : D} {u : V} (h : Rep K H M d u) : decide (u = .non) = isN d := by
  cases d with
  | none => simp only [Rep] at h; subst h; rfl
  | bool b => simp only [Rep] at h; subst h; rfl
  | int i => simp only [Rep] at h; subst h; rfl
  | str x => simp only [Rep] at h; obtain ⟨rfl, _⟩ := h; rfl
  | list ds => simp only [Rep] at h; obtain ⟨a, xs, rfl, _⟩ := h; rfl
  | tuple ds => simp only [Rep] at h; obtain ⟨a, xs, rfl, _⟩ := h; rfl
  | dict kvs => simp only [Rep] at h
theorem isN_core {b : Bool} {a : Expr} {fa : Env → Out EV} (ha : DE X W a fa) {Q : VK} (E : ER X.K X.mg s) (g : Goal X W (RE X) s (fIsN b fa s.ρ) Q) : wE X a s.σ s.H fun x H1 => Q (.bl (b != decide (x = .non))) H1 := by
  refine (ha.run s _ E (GoalK.bind0 E g)).mono fun u H2 ⟨v, s2, hσ, hH, _, t, _, E2, ⟨r, fr⟩, g2⟩ => ?_
  subst hH
  unfold isNV at g2
  split at g2
  · rename_i d
    rw [dec_non (show Rep _ _ _ _ _ from r)]
    exact g2.flat E2 t hσ rep_bool
  · obtain ⟨a', xs, rfl, _⟩ := r
    exact g2.flat E2 t hσ rep_bool
  · exact g2.elim
theorem de_isN {a : Expr} {fa : Env → Out EV} {j pos' pos} (ha : DE X W a fa) : DE X W (.Compare a [.Is] [.Constant .none j pos'] pos) (fIsN false fa) :=
  ⟨fun s Q E g => (pe_cmp (pc_isN (pe_w a))).w ((isN_core ha E g).mono fun x H h => by rwa [bne_false_id] at h)⟩
theorem de_notN {a : Expr} {fa : Env → Out EV} {j pos' pos} (ha : DE X W a fa) : DE X W (.Compare a [.IsNot] [.Constant .none j pos'] pos) (fIsN true fa) :=
  ⟨fun s Q E g => (pe_cmp (pc_notN (pe_w a))).w ((isN_core ha E g).mono fun x H h => by rwa [bne_true_not] at h)⟩
theorem toBool {f : Env → Out EV} {Q : Bool → Hp → Prop} (E : ER X.K X.mg s) (g : Goal X W RB s (fBool f s.ρ) Q) : Goal X W (RE X) s (f s.ρ) fun u H2 => ∃ c, u = .bl c ∧ Q c H2 :=
  (GoalK.bind0 E g).mono fun u H2 ⟨v, s2, hσ, hH, _, t, _, E2, ⟨r, fr⟩, g2⟩ => by
    subst hH
    unfold boolV at g2
    split at g2
    · exact ⟨_, ofS_bool (Rep.top (show Rep _ _ _ _ _ from r)).s, g2.fin hσ t E2 rfl⟩
    · exact g2.elim
theorem dt_isN {a : Expr} {fa : Env → Out EV} {j pos' pos} (ha : DE X W a fa) : DT X W (.Compare a [.Is] [.Constant .none j pos'] pos) (fBool (fIsN false fa)) :=
  ⟨fun s Q E g => (pt_cmp (pc_isN (pe_w a))).w ((isN_core ha E (toBool E g)).mono fun x H h => by rwa [bne_false_id] at h)⟩
theorem dt_notN {a : Expr} {fa : Env → Out EV} {j pos' pos} (ha : DE X W a fa) : DT X W (.Compare a [.IsNot] [.Constant .none j pos'] pos) (fBool (fIsN true fa)) :=
  ⟨fun s Q E g => (pt_cmp (pc_notN (pe_w a))).w ((isN_core ha E (toBool E g)).mono fun x H h => by rwa [bne_true_not] at h)⟩

/-! ### a op b op c -/
def fChain (op op' : D → D → Env → Out EV) (fa fb fc : Env → Out EV) : Env → Out EV := fun ρ => (fa ρ).bind fun va ρ1 => (fb ρ1).bind fun vb ρ2 => (rd2 op va vb ρ2).bind fun vk ρ3 => match vk with
  | .sh (.bool true) => (fc ρ3).bind fun vc ρ4 => rd2 op' vb vc ρ4
  | .sh (.bool false) => .ok (.sh (.bool false)) ρ3
  | _ => .stuck
theorem rd2_goal {f : Value → Value → Sem Value} {op : D → D → Env → Out EV} (ho : DO2 X W f op) {va vb : EV} {u1 u2 : V} {Q : VK} (E : ER X.K X.mg s) (t : Tr s0 s) (hσ : s.σ = s0.σ) (r1 : EVR X.K X.mg s va u1) (r2 : EVR X.K X.mg s vb u2) (g : Goal X W (RE X) s0 (rd2 op va vb s.ρ) Q) : wO X f u1 u2 s.H Q := by
  unfold rd2 at g
  split at g
  · rename_i da db ea eb
    exact ho.run s0 s da db u1 u2 Q E t hσ (rd_ok E r1 ea) (rd_ok E r2 eb) g
  · exact g.elim
theorem chain_core {a b c : Expr} {fa fb fc : Env → Out EV} {f f' : Value → Value → Sem Value} {op op' : D → D → Env → Out EV} (ho : DO2 X W f op) (ho' : DO2 X W f' op') (ha : DE X W a fa) (hb : DE X W b fb) (hc : DE X W c fc) {Q : VK} (E : ER X.K X.mg s)
    (g : Goal X W (RE X) s (fChain op op' fa fb fc s.ρ) Q) : tChain (wO X f) (wO X f') (wE X a) (wE X b) (wE X c) s.σ s.H Q := by
  refine (ha.run s _ E (GoalK.bind0 E g)).mono fun u1 H1 ⟨v1, s1, hσ, hH, _, t1, _, E1, ⟨r1, fr1⟩, g1⟩ => ?_
  subst hH
  rw [← hσ]
  refine (hb.run s1 _ E1 (GoalK.bind t1 hσ g1)).mono fun u2 H2 ⟨v2, s2, hσ2, hH2, _, t2, t12, E2, ⟨r2, fr2⟩, g2⟩ => ?_
  subst hH2
  refine rd2_goal ho E2 (Tr.refl E2) rfl (EVR.tr E1 t12 hσ2 r1) r2 ((GoalK.bind t2 (hσ2.trans hσ) g2).mono fun u3 H3 ⟨v3, s3, hσ3, hH3, _, t3, t23, E3, ⟨r3, fr3⟩, g3⟩ => ?_)
  subst hH3
  split at g3
  · refine ⟨true, ofS_bool (Rep.top (show Rep _ _ _ _ _ from r3)).s, ?_⟩
    rw [if_pos rfl, ← hσ2, ← hσ3]
    refine (hc.run s3 _ E3 (GoalK.bind t3 (hσ3.trans (hσ2.trans hσ)) g3)).mono fun u4 H4 ⟨v4, s4, hσ4, hH4, _, t4, t34, E4, ⟨r4, fr4⟩, g4⟩ => ?_
    subst hH4
    exact rd2_goal ho' E4 t4 (hσ4.trans (hσ3.trans (hσ2.trans hσ))) (EVR.tr E3 t34 hσ4 (EVR.tr E2 t23 hσ3 r2)) r4 g4
  · refine ⟨false, ofS_bool (Rep.top (show Rep _ _ _ _ _ from r3)).s, ?_⟩
    rw [if_neg Bool.false_ne_true]
    exact g3.flat E3 t3 (hσ3.trans (hσ2.trans hσ)) rep_bool
  · exact g3.elim
theorem de_chain {a b c : Expr} {fa fb fc : Env → Out EV} {o o' : CmpOp} {op op' : D → D → Env → Out EV} {pos : Pos} (ho : DO2 X W (compareOp o) op) (ho' : DO2 X W (compareOp o') op') (ha : DE X W a fa) (hb : DE X W b fb) (hc : DE X W c fc)
    (hm : lastMarks [o, o'] [b, c] = false := by with_unfolding_all rfl) : DE X W (.Compare a [o, o'] [b, c] pos) (fChain op op' fa fb fc) :=
  ⟨fun s Q E g => (pe_chain opr_w opr_w (pe_w a) (pe_w b) (pe_w c) hm).w (chain_core ho ho' ha hb hc E g)⟩
theorem dt_chain {a b c : Expr} {fa fb fc : Env → Out EV} {o o' : CmpOp} {op op' : D → D → Env → Out EV} {pos : Pos} (ho : DO2 X W (compareOp o) op) (ho' : DO2 X W (compareOp o') op') (ha : DE X W a fa) (hb : DE X W b fb) (hc : DE X W c fc)
    (hm : lastMarks [o, o'] [b, c] = false := by with_unfolding_all rfl) : DT X W (.Compare a [o, o'] [b, c] pos) (fBool (fChain op op' fa fb fc)) :=
  ⟨fun s Q E g => (pt_chain opr_w opr_w (pe_w a) (pe_w b) (pe_w c) hm).w (chain_core ho ho' ha hb hc E (toBool E g))⟩

/-! ### and, or, not -/
/-- from s1 on instead of s0 -/
theorem GoalK.tr {α β : Type} {R R' : Hp → Sg → α → β → Prop} {o : Out α} {Q : β → Hp → Prop} (t : Tr s0 s1) (hσ : s1.σ = s0.σ) (h : Goal X W R' s0 o Q) (hR : ∀ s2 v u, Tr s1 s2 → R s1.H s2 v u → R' s0.H s2 v u) : Goal X W R s1 o Q := by
  obtain ⟨M0, ρ0, σ0, H0⟩ := s0
  obtain ⟨M1, ρ1, σ1, H1⟩ := s1
  cases hσ
  cases o with
  | ok v ρ' => exact fun u M' H' t' E r => h u M' H' (t.trans t') E (hR _ _ _ t' r)
  | exc c fs ρ' => exact fun cls d M' H' t' E r => h cls d M' H' (t.trans t') E r
  | stuck => exact h
theorem re_back (t : Tr s0 s1) {s2 : Sg} {v : EV} {u : V} (r : RE X s1.H s2 v u) : RE X s0.H s2 v u := by
  obtain ⟨r, fr⟩ := r
  refine ⟨r, ?_⟩
  cases v with
  | fr ds => exact fun a e => t.none_back (fr a e)
  | _ => trivial
theorem DW.pt {e : Expr} {f : Env → Out Bool} (h : DW X W e f) : DT X W e f := ⟨fun s Q E g => fun pins st I => h.run s Q E g (eval e X.env) pins st I⟩
theorem dw_and1 {a : Expr} {pos : Pos} {f : Env → Out Bool} (h : DT X W a f) : DW X W (.BoolOp .And [a] pos) f := ⟨fun s Q E g => (pw_and1 (pt_w a)).w (h.run s Q E g)⟩
theorem dw_or1 {a : Expr} {pos : Pos} {f : Env → Out Bool} (h : DT X W a f) : DW X W (.BoolOp .Or [a] pos) f := ⟨fun s Q E g => (pw_or1 (pt_w a)).w (h.run s Q E g)⟩
def tAnd' (f g : Env → Out Bool) : Env → Out Bool := fun ρ => (f ρ).bind fun k ρ1 => if k = true then g ρ1 else .ok false ρ1
def tOr' (f g : Env → Out Bool) : Env → Out Bool := fun ρ => (f ρ).bind fun k ρ1 => if k = true then .ok true ρ1 else g ρ1
def tNot' (f : Env → Out Bool) : Env → Out Bool := fun ρ => (f ρ).bind fun k ρ1 => .ok (!k) ρ1
theorem dw_and {a b : Expr} {rest : List Expr} {pos : Pos} {f g : Env → Out Bool} (ha : DT X W a f) (hb : DW X W (.BoolOp .And (b :: rest) pos) g) : DW X W (.BoolOp .And (a :: b :: rest) pos) (tAnd' f g) := by
  refine ⟨fun s Q E gg => (pw_and (pt_w a) (pw_w _)).w ?_⟩
  refine (ha.run s _ E (GoalK.bind0 E gg)).mono fun k H2 ⟨v, s2, hσ, hH, _, t, _, E2, r, g2⟩ => ?_
  subst hH
  have r' : k = v := r
  subst r'
  cases k with
  | true =>
    rw [if_pos rfl, ← hσ]
    refine hb.run s2 Q E2 ?_
    rw [if_pos rfl] at g2
    exact GoalK.tr t hσ g2 fun _ _ _ _ r => r
  | false =>
    rw [if_neg Bool.false_ne_true] at g2 ⊢
    exact g2.fin hσ t E2 rfl
theorem dw_or {a b : Expr} {rest : List Expr} {pos : Pos} {f g : Env → Out Bool} (ha : DT X W a f) (hb : DW X W (.BoolOp .Or (b :: rest) pos) g) : DW X W (.BoolOp .Or (a :: b :: rest) pos) (tOr' f g) := by
  refine ⟨fun s Q E gg => (pw_or (pt_w a) (pw_w _)).w ?_⟩
  refine (ha.run s _ E (GoalK.bind0 E gg)).mono fun k H2 ⟨v, s2, hσ, hH, _, t, _, E2, r, g2⟩ => ?_
  subst hH
  have r' : k = v := r
  subst r'
  cases k with
  | false =>
    rw [if_neg Bool.false_ne_true, ← hσ]
    refine hb.run s2 Q E2 ?_
    rw [if_neg Bool.false_ne_true] at g2
    exact GoalK.tr t hσ g2 fun _ _ _ _ r => r
  | true =>
    rw [if_pos rfl] at g2 ⊢
    exact g2.fin hσ t E2 rfl
theorem dt_not {a : Expr} {pos : Pos} {f : Env → Out Bool} (ha : DT X W a f) : DT X W (.UnaryOp .Not a pos) (tNot' f) := by
  refine ⟨fun s Q E gg => (pt_not (pt_w a)).w ?_⟩
  refine (ha.run s _ E (GoalK.bind0 E gg)).mono fun k H2 ⟨v, s2, hσ, hH, _, t, _, E2, r, g2⟩ => ?_
  subst hH
  have r' : k = v := r
  subst r'
  exact g2.fin hσ t E2 rfl
def vAnd (f g : Env → Out EV) : Env → Out EV := fun ρ => (f ρ).bind fun v ρ1 => match v with
  | .sh (.bool true) => g ρ1
  | .sh (.bool false) => .ok (.sh (.bool false)) ρ1
  | _ => .stuck
def vOr (f g : Env → Out EV) : Env → Out EV := fun ρ => (f ρ).bind fun v ρ1 => match v with
  | .sh (.bool true) => .ok (.sh (.bool true)) ρ1
  | .sh (.bool false) => g ρ1
  | _ => .stuck
def vNot (f : Env → Out EV) : Env → Out EV := fun ρ => (f ρ).bind fun v ρ1 => match v with
  | .sh (.bool b) => .ok (.sh (.bool (!b))) ρ1
  | _ => .stuck
theorem de_one {op} {a : Expr} {pos : Pos} {f : Env → Out EV} (h : DE X W a f) : DE X W (.BoolOp op [a] pos) f := ⟨fun s Q E g => (pe_one (pe_w a)).w (h.run s Q E g)⟩
theorem de_and {a b : Expr} {rest : List Expr} {pos : Pos} {f g : Env → Out EV} (ha : DE X W a f) (hb : DE X W (.BoolOp .And (b :: rest) pos) g) : DE X W (.BoolOp .And (a :: b :: rest) pos) (vAnd f g) := by
  refine ⟨fun s Q E gg => (pe_and (pe_w a) (pe_w _)).w ?_⟩
  refine (ha.run s _ E (GoalK.bind0 E gg)).mono fun u H2 ⟨v, s2, hσ, hH, _, t, _, E2, ⟨r, fr⟩, g2⟩ => ?_
  subst hH
  split at g2
  · refine ⟨true, ofS_bool (Rep.top (show Rep _ _ _ _ _ from r)).s, ?_⟩
    rw [if_pos rfl, ← hσ]
    exact hb.run s2 Q E2 (GoalK.tr t hσ g2 fun _ _ _ _ r => re_back t r)
  · refine ⟨false, ofS_bool (Rep.top (show Rep _ _ _ _ _ from r)).s, ?_⟩
    rw [if_neg Bool.false_ne_true]
    exact g2.flat E2 t hσ rep_bool
  · exact g2.elim
theorem de_or {a b : Expr} {rest : List Expr} {pos : Pos} {f g : Env → Out EV} (ha : DE X W a f) (hb : DE X W (.BoolOp .Or (b :: rest) pos) g) : DE X W (.BoolOp .Or (a :: b :: rest) pos) (vOr f g) := by
  refine ⟨fun s Q E gg => (pe_or (pe_w a) (pe_w _)).w ?_⟩
  refine (ha.run s _ E (GoalK.bind0 E gg)).mono fun u H2 ⟨v, s2, hσ, hH, _, t, _, E2, ⟨r, fr⟩, g2⟩ => ?_
  subst hH
  split at g2
  · refine ⟨true, ofS_bool (Rep.top (show Rep _ _ _ _ _ from r)).s, ?_⟩
    rw [if_pos rfl]
    exact g2.flat E2 t hσ rep_bool
  · refine ⟨false, ofS_bool (Rep.top (show Rep _ _ _ _ _ from r)).s, ?_⟩
    rw [if_neg Bool.false_ne_true, ← hσ]
    exact hb.run s2 Q E2 (GoalK.tr t hσ g2 fun _ _ _ _ r => re_back t r)
  · exact g2.elim
theorem de_not {a : Expr} {pos : Pos} {f : Env → Out EV} (ha : DE X W a f) : DE X W (.UnaryOp .Not a pos) (vNot f) := by
  refine ⟨fun s Q E gg => (pe_not (pe_w a)).w ?_⟩
  refine (ha.run s _ E (GoalK.bind0 E gg)).mono fun u H2 ⟨v, s2, hσ, hH, _, t, _, E2, ⟨r, fr⟩, g2⟩ => ?_
  subst hH
  split at g2
  · exact ⟨_, ofS_bool (Rep.top (show Rep _ _ _ _ _ from r)).s, g2.flat E2 t hσ rep_bool⟩
  · exact g2.elim
def vIf (c : Env → Out Bool) (f g : Env → Out EV) : Env → Out EV := fun ρ => (c ρ).bind fun k ρ1 => if k = true then f ρ1 else g ρ1
theorem de_if {c a b : Expr} {pos : Pos} {fc : Env → Out Bool} {f g : Env → Out EV} (hc : DT X W c fc) (ha : DE X W a f) (hb : DE X W b g) : DE X W (.IfExp c a b pos) (vIf fc f g) := by
  refine ⟨fun s Q E gg => (pe_ifExp (pt_w c) (pe_w a) (pe_w b)).w ?_⟩
  refine (hc.run s _ E (GoalK.bind0 E gg)).mono fun k H2 ⟨v, s2, hσ, hH, _, t, _, E2, r, g2⟩ => ?_
  subst hH
  have r' : k = v := r
  subst r'
  cases k with
  | true =>
    rw [if_pos rfl] at g2 ⊢
    rw [← hσ]
    exact ha.run s2 Q E2 (GoalK.tr t hσ g2 fun _ _ _ _ r => re_back t r)
  | false =>
    rw [if_neg Bool.false_ne_true] at g2 ⊢
    rw [← hσ]
    exact hb.run s2 Q E2 (GoalK.tr t hσ g2 fun _ _ _ _ r => re_back t r)
theorem de_neg {a : Expr} {pos : Pos} {f : Env → Out EV} (ha : DE X W a f) : DE X W (.UnaryOp .USub a pos) (fun ρ => (f ρ).bind fun v ρ1 => match v with | .sh (.int i) => .ok (.sh (.int (-i))) ρ1 | _ => .stuck) := by
  refine ⟨fun s Q E gg => (pe_un un_neg (pe_w a)).w ?_⟩
  refine (ha.run s _ E (GoalK.bind0 E gg)).mono fun u H2 ⟨v, s2, hσ, hH, _, t, _, E2, ⟨r, fr⟩, g2⟩ => ?_
  subst hH
  split at g2
  · exact ⟨_, ofS_int (Rep.top (show Rep _ _ _ _ _ from r)).s, g2.flat E2 t hσ rep_int⟩
  · exact g2.elim
end
end DL
namespace DL
open PySem PySem.Spec PyProof.Rows L2

/-! ### turns -/
def Out.turn (o : Out Fl) (k : Env → Out Fl) : Out Fl :=
  match o with
  | .ok .nx ρ => k ρ
  | .ok .ct ρ => k ρ
  | .ok .bk ρ => .ok .nx ρ
  | o => o
@[simp] theorem Out.turn_nx (ρ : Env) (k : Env → Out Fl) : (Out.ok Fl.nx ρ).turn k = k ρ := rfl
@[simp] theorem Out.turn_ct (ρ : Env) (k : Env → Out Fl) : (Out.ok Fl.ct ρ).turn k = k ρ := rfl
@[simp] theorem Out.turn_bk (ρ : Env) (k : Env → Out Fl) : (Out.ok Fl.bk ρ).turn k = .ok .nx ρ := rfl
@[simp] theorem Out.turn_rt (v : EV) (ρ : Env) (k : Env → Out Fl) : (Out.ok (Fl.rt v) ρ).turn k = .ok (.rt v) ρ := rfl
@[simp] theorem Out.turn_exc (c : Str) (fs : List (Str × D)) (ρ : Env) (k : Env → Out Fl) : (Out.exc c fs ρ).turn k = .exc c fs ρ := rfl
@[simp] theorem Out.turn_stuck (k : Env → Out Fl) : (Out.stuck).turn k = .stuck := rfl

section
variable {X : Cx} {W : WX} {s s0 s1 : Sg}
/-- where a turn of a loop leads -/
def Nx (X : Cx) (W : WX) (s : Sg) (k : Env → Out Fl) (D : Ends) (σ : L2.St) (H : Hp) : Prop := ∃ s', s'.σ = σ ∧ s'.H = H ∧ Tr s s' ∧ ER X.K X.mg s' ∧ SGoal X W s (k s'.ρ) D
theorem SGoal.turn {o : Out Fl} {k : Env → Out Fl} {D : Ends} (h : SGoal X W s (o.turn k) D) : SGoal X W s o { D with nx := Nx X W s k D, ct := Nx X W s k D, bk := D.nx } := by
  cases o with
  | ok fl ρ' =>
    cases fl with
    | nx => exact fun σ' M' H' t E => ⟨⟨M', ρ', σ', H'⟩, rfl, rfl, t, E, h⟩
    | ct => exact fun σ' M' H' t E => ⟨⟨M', ρ', σ', H'⟩, rfl, rfl, t, E, h⟩
    | bk => exact h
    | rt v => exact h
  | exc c fs ρ' => exact h
  | stuck => exact h
def Nx2 (X : Cx) (W : WX) (s0 s : Sg) (k : Env → Out Fl) (D : Ends) (σ : L2.St) (H : Hp) : Prop := ∃ s', s'.σ = σ ∧ s'.H = H ∧ Tr s0 s' ∧ Tr s s' ∧ ER X.K X.mg s' ∧ SGoal X W s0 (k s'.ρ) D
theorem SGoal.turn2 {o : Out Fl} {k : Env → Out Fl} {D : Ends} (E : ER X.K X.mg s0) (t : Tr s0 s) (h : SGoal X W s0 (o.turn k) D) : SGoal X W s o { D with nx := Nx2 X W s0 s k D, ct := Nx2 X W s0 s k D, bk := D.nx } := by
  cases o with
  | ok fl ρ' =>
    cases fl with
    | nx => exact fun σ' M' H' t' E' => ⟨⟨M', ρ', σ', H'⟩, rfl, rfl, t.trans t', t', E', h⟩
    | ct => exact fun σ' M' H' t' E' => ⟨⟨M', ρ', σ', H'⟩, rfl, rfl, t.trans t', t', E', h⟩
    | bk => exact fun σ' M' H' t' E' => h σ' M' H' (t.trans t') E'
    | rt v => exact fun u σ' M' H' t' E' r fr => h u σ' M' H' (t.trans t') E' r (fr.tr E t)
  | exc c fs ρ' => exact fun cls d σ' M' H' t' E' r => h cls d σ' M' H' (t.trans t') E' r
  | stuck => exact h
/-! ### while -/
def dWh (fc : Env → Out Bool) (fb : Env → Out Fl) : Nat → Env → Out Fl
  | 0, _ => .stuck
  | n + 1, ρ => (fc ρ).bind fun k ρ1 => if k = true then (fb ρ1).turn (dWh fc fb n) else .ok .nx ρ1
theorem ds_while {c : Expr} {body : List Stmt} {fc : Env → Out Bool} {fb : Env → Out Fl} {pos : Pos} (n : Nat) (C : DC X W) (hc : DT X W c fc) (hb : DSs X W body fb) : DS X W (.While c body [] pos) (dWh fc fb n) := by
  refine ⟨fun s D E h => (ps_while C.po (pt_w c) (pss_w body)).w ?_⟩
  refine ⟨fun m σ H => ∃ s', s'.σ = σ ∧ s'.H = H ∧ Tr s s' ∧ ER X.K X.mg s' ∧ SGoal X W s (dWh fc fb m s'.ρ) D, ⟨n, s, rfl, rfl, Tr.refl E, E, h⟩, fun m σ H ⟨s1, e1, e2, t1, E1, g1⟩ => ?_⟩
  subst e1; subst e2
  cases m with
  | zero => exact g1.elim
  | succ m =>
    simp only [dWh] at g1
    refine (hc.run s1 _ E1 (SGoal.bind t1 g1)).mono fun k H2 ⟨v, s2, hσ, hH, _, t, _, E2, r, g2⟩ => ?_
    subst hH
    have r' : k = v := r
    subst r'
    cases k with
    | true =>
      rw [if_pos rfl] at g2 ⊢
      refine ⟨Nx X W s (dWh fc fb m) D, fun σ' H' ⟨s3, h1, h2, t3, E3, g3⟩ => ⟨m, Nat.lt_succ_self m, s3, h1, h2, t3, E3, g3⟩, ?_⟩
      rw [← hσ]
      exact hb.run s2 _ E2 (SGoal.tr E t (SGoal.turn g2))
    | false =>
      rw [if_neg Bool.false_ne_true] at g2 ⊢
      have := g2.fin_nx t E2
      rwa [hσ] at this

/-! ### targets -/
def wG (X : Cx) (tg : Expr) (u : V) (σ : L2.St) (H : Hp) (Q : L2.St → Hp → Prop) : Prop := ∀ (pins : List (Addr × Obj)) (st : Shared) (v : Value), Inv X pins σ H st → RelV u v → wpAny (model X.prog X.w) X.A (assign tg X.env v) (fun _ s' => ∃ σ' H', Inv X pins σ' H' s' ∧ Q σ' H') X.xe st
theorem pg_w (X : Cx) (tg : Expr) : PG X tg (wG X tg) := ⟨fun pins s σ H v u Q I r h => h pins s u I r⟩
theorem _root_.L2.PG.w {X : Cx} {tg : Expr} {t : TG} (h : PG X tg t) {u : V} {σ : L2.St} {H : Hp} {Q : L2.St → Hp → Prop} (q : t u σ H Q) : wG X tg u σ H Q := fun pins s v I r => h.run pins s σ H u v Q I r q
def wGs (X : Cx) (ts : List Expr) (us : List V) (σ : L2.St) (H : Hp) (Q : L2.St → Hp → Prop) : Prop := ∀ (pins : List (Addr × Obj)) (st : Shared) (vs : List Value), Inv X pins σ H st → Vals us vs → wpAny (model X.prog X.w) X.A (assignInOrder ((assignEach ts X.env).map (·.2)) vs) (fun _ s' => ∃ σ' H', Inv X pins σ' H' s' ∧ Q σ' H') X.xe st
theorem pgs_w (X : Cx) (ts : List Expr) : PGs X ts (wGs X ts) := ⟨fun pins s σ H v u Q I r h => h pins s u I r⟩
theorem _root_.L2.PGs.w {X : Cx} {ts : List Expr} {t : TGs} (h : PGs X ts t) {us : List V} {σ : L2.St} {H : Hp} {Q : L2.St → Hp → Prop} (q : t us σ H Q) : wGs X ts us σ H Q := fun pins s v I r => h.run pins s σ H us v Q I r q
def SameOut (vs : List Nat) (σ σ' : L2.St) : Prop := σ'.length = σ.length ∧ ∀ (j : Nat), j ∉ vs → σ'[j]? = σ[j]?
theorem SameOut.refl {vs : List Nat} {σ : L2.St} : SameOut vs σ σ := ⟨rfl, fun _ _ => rfl⟩
theorem SameOut.trans {vs ws : List Nat} {σ σ1 σ2 : L2.St} (a : SameOut vs σ σ1) (b : SameOut ws σ1 σ2) : SameOut (vs ++ ws) σ σ2 :=
  ⟨b.1.trans a.1, fun j h => by
    rw [List.mem_append, not_or] at h
    exact (b.2 j h.2).trans (a.2 j h.1)⟩
structure DG (X : Cx) (tg : Expr) (vs : List Nat) (g : D → Env → Option Env) : Prop where
  run : ∀ (s0 s : Sg) (d : D) (u : V) (ρ' : Env) (Q : L2.St → Hp → Prop), ER X.K X.mg s → Tr s0 s → Rep X.K s.H s.M d u → g d s.ρ = some ρ' →
    (∀ σ' (M' : Addr → Prop) H', Tr s0 ⟨M', ρ', σ', H'⟩ → ER X.K X.mg ⟨M', ρ', σ', H'⟩ → SameOut vs s.σ σ' → Q σ' H') → wG X tg u s.σ s.H Q
structure DGs (X : Cx) (ts : List Expr) (vs : List Nat) (g : List D → Env → Option Env) : Prop where
  run : ∀ (s0 s : Sg) (ds : List D) (us : List V) (ρ' : Env) (Q : L2.St → Hp → Prop), ER X.K X.mg s → Tr s0 s → Reps X.K s.H s.M ds us → g ds s.ρ = some ρ' →
    (∀ σ' (M' : Addr → Prop) H', Tr s0 ⟨M', ρ', σ', H'⟩ → ER X.K X.mg ⟨M', ρ', σ', H'⟩ → SameOut vs s.σ σ' → Q σ' H') → wGs X ts us s.σ s.H Q
def gN (i : Nat) (d : D) (ρ : Env) : Option Env := stS i (.sh d) ρ
theorem dg_name {i : Nat} {x : Str} {pos : Pos} (hN : X.N.Nodup) (hi : X.N[i]? = some x) (hx : Loc X.env.scope x) (hf : X.fn x = true ∨ X.env.scope.names.lookup x = some .local) : DG X (.Name x pos) [i] (gN i) := by
  refine ⟨fun s0 s d u ρ' Q E t r h k => (pg_name hN hi hx hf).w ?_⟩
  obtain ⟨e1, e2, e3⟩ := stS_some h
  subst e1
  obtain ⟨a1, a2⟩ := er_set E t e2 e3 (sv := .sh d) (u := u) r (fun z => nomatch z) rfl
  exact k _ s.M s.H a2 a1 ⟨by simp, fun j hj => List.getElem?_set_ne (fun z => hj (by simp [z]))⟩
def gNil : List D → Env → Option Env
  | [], ρ => some ρ
  | _, _ => none
def gCons (g : D → Env → Option Env) (h : List D → Env → Option Env) : List D → Env → Option Env
  | d :: ds, ρ => (match g d ρ with
    | some ρ1 => h ds ρ1
    | none => none)
  | _, _ => none
theorem dgs_nil : DGs X [] [] gNil := by
  refine ⟨fun s0 s ds us ρ' Q E t r h k => pgs_nil.w ?_⟩
  cases ds with
  | nil =>
    cases h
    exact ⟨reps_nil_inv r, k s.σ s.M s.H t E .refl⟩
  | cons d ds => cases h
theorem dgs_cons {e : Expr} {es : List Expr} {vs ws : List Nat} {g : D → Env → Option Env} {h : List D → Env → Option Env} (h1 : DG X e vs g) (h2 : DGs X es ws h)
    (hs : (assignEach (e :: es) X.env).map (·.2) = assign e X.env :: (assignEach es X.env).map (·.2) := by rfl) : DGs X (e :: es) (vs ++ ws) (gCons g h) := by
  refine ⟨fun s0 s ds us ρ' Q E t r hh k => (pgs_cons (pg_w X e) (pgs_w X es) hs).w ?_⟩
  cases ds with
  | nil => cases hh
  | cons d ds =>
    obtain ⟨x, xs, e1, rx, rr⟩ := reps_inv r
    subst e1
    simp only [gCons] at hh
    split at hh
    · rename_i ρ1 e1
      refine ⟨x, xs, rfl, h1.run s s d x ρ1 _ E (Tr.refl E) rx e1 fun σ1 M1 H1 t1 E1 so1 => ?_⟩
      exact h2.run s0 ⟨M1, ρ1, σ1, H1⟩ ds xs ρ' Q E1 (t.trans t1) (Reps.tr E t1 rr) hh fun σ2 M2 H2 t2 E2 so2 => k σ2 M2 H2 t2 E2 (so1.trans so2)
    · cases hh
def gT (n : Nat) (g : List D → Env → Option Env) : D → Env → Option Env
  | .tuple ds, ρ => if ds.length = n then g ds ρ else none
  | _, _ => none
theorem dg_tup {es : List Expr} {k : Nat} {pos : Pos} {vs : List Nat} {g : List D → Env → Option Env} {n : Nat} (hc : X.calm = true) (h : DGs X es vs g) (hn : (assignEach es X.env).length = n := by rfl) (hst : (assignEach es X.env).findIdx? (·.1) = none := by rfl) : DG X (.Tuple es k pos) vs (gT n g) := by
  refine ⟨fun s0 s d u ρ' Q E t r hh kk => (pg_tup hc (pgs_w X es) hn hst).w ?_⟩
  cases d with
  | tuple ds =>
    simp only [gT] at hh
    split at hh
    · rename_i hl
      simp only [Rep] at r
      obtain ⟨a, xs, rfl, ha, q⟩ := r
      exact ⟨a, xs, rfl, ha, q.length.trans hl, h.run s0 s ds xs ρ' Q E t q hh kk⟩
    · cases hh
  | _ => cases hh

/-! ### what is walked -/
def wI (X : Cx) (tg iter : Expr) (σ : L2.St) (H : Hp) (R : It → Hp → Prop) : Prop := ∀ (pins : List (Addr × Obj)) (st : Shared), Inv X pins σ H st →
  wpAny (model X.prog X.w) X.A (eval iter X.env) (fun v s1 => wpAny (model X.prog X.w) X.A (pyIter v) (PIE X pins σ tg R) X.xe s1) X.xe st
theorem pi_w (X : Cx) (tg iter : Expr) : PI X tg iter (wI X tg iter) := ⟨fun pins s σ H R I h => h pins s I⟩
theorem _root_.L2.PI.w {X : Cx} {tg iter : Expr} {t : TI} (h : PI X tg iter t) {σ : L2.St} {H : Hp} {R : It → Hp → Prop} (q : t σ H R) : wI X tg iter σ H R := fun pins s I => h.run pins s σ H R I q
end
mutual
def sameD : D → D → Bool
  | .none, .none => true
  | .bool a, .bool b => a == b
  | .int a, .int b => a == b
  | .str a, .str b => decide (a.cps = b.cps)
  | .list a, .list b => sameL a b
  | .tuple a, .tuple b => sameL a b
  | .dict a, .dict b => sameK a b
  | _, _ => false
def sameL : List D → List D → Bool
  | [], [] => true
  | a :: as, b :: bs => sameD a b && sameL as bs
  | _, _ => false
def sameK : List (D × D) → List (D × D) → Bool
  | [], [] => true
  | (a, c) :: as, (b, d) :: bs => sameD a b && sameD c d && sameK as bs
  | _, _ => false
end
mutual
theorem sameD_eq : ∀ (a b : D), sameD a b = true → a = b
  | .none, b, h => by cases b <;> simp_all [sameD]
  | .bool a, b, h => by cases b <;> simp_all [sameD]
  | .int a, b, h => by cases b <;> simp_all [sameD]
  | .str a, b, h => by
    cases b with
    | str b =>
      obtain ⟨x⟩ := a
      obtain ⟨y⟩ := b
      simp only [sameD, decide_eq_true_eq] at h
      rw [h]
    | _ => simp [sameD] at h
  | .list a, b, h => by
    cases b with
    | list b => simp only [sameD] at h; rw [sameL_eq a b h]
    | _ => simp [sameD] at h
  | .tuple a, b, h => by
    cases b with
    | tuple b => simp only [sameD] at h; rw [sameL_eq a b h]
    | _ => simp [sameD] at h
  | .dict a, b, h => by
    cases b with
    | dict b => simp only [sameD] at h; rw [sameK_eq a b h]
    | _ => simp [sameD] at h
theorem sameL_eq : ∀ (a b : List D), sameL a b = true → a = b
  | [], b, h => by cases b <;> simp_all [sameL]
  | a :: as, b, h => by
    cases b with
    | nil => simp [sameL] at h
    | cons b bs =>
      simp only [sameL, Bool.and_eq_true] at h
      rw [sameD_eq a b h.1, sameL_eq as bs h.2]
theorem sameK_eq : ∀ (a b : List (D × D)), sameK a b = true → a = b
  | [], b, h => by cases b <;> simp_all [sameK]
  | (a, c) :: as, b, h => by
    cases b with
    | nil => simp [sameK] at h
    | cons b bs =>
      obtain ⟨b, d⟩ := b
      simp only [sameK, Bool.and_eq_true] at h
      rw [sameD_eq a b h.1.1, sameD_eq c d h.1.2, sameK_eq as bs h.2]
end
mutual
theorem sameD_refl : ∀ a : D, sameD a a = true
  | .none => rfl
  | .bool a => by simp [sameD]
  | .int a => by simp [sameD]
  | .str a => by simp [sameD]
  | .list a => by simp only [sameD]; exact sameL_refl a
  | .tuple a => by simp only [sameD]; exact sameL_refl a
  | .dict a => by simp only [sameD]; exact sameK_refl a
theorem sameL_refl : ∀ a : List D, sameL a a = true
  | [] => rfl
  | a :: as => by simp only [sameL, sameD_refl a, sameL_refl as, Bool.and_self]
theorem sameK_refl : ∀ a : List (D × D), sameK a a = true
  | [] => rfl
  | (a, c) :: as => by simp only [sameK, sameD_refl a, sameD_refl c, sameK_refl as, Bool.and_self]
end
/-- what a loop walks: the items; an own list's slot, its flag -/
structure Its where
  ds : List D
  chk : Option (Nat × Bool × List D) := none
def Its.ok (t : Its) (ρ : Env) : Bool := match t.chk with
  | none => true
  | some (i, _, es) => (match ρ[i]? with
    | some (some (.ow true ds)) => sameL ds es
    | _ => false)
/-- while it is walked, an own list stays where it is -/
def Its.grab (t : Its) (ρ : Env) : Env := match t.chk with
  | none => ρ
  | some (i, _, es) => ρ.set i (some (.ow true es))
def Its.free (t : Its) (ρ : Env) : Env := match t.chk with
  | none => ρ
  | some (i, b, _) => (match ρ[i]? with
    | some (some (.ow true ds)) => ρ.set i (some (.ow b ds))
    | _ => ρ)
/-- the list is there -/
def Its.At (t : Its) (ρ : Env) : Prop := ∀ i b es, t.chk = some (i, b, es) → ρ[i]? = some (some (.ow b es))
section
variable {K : PySem.W.Frag} {mg : Str → Option Value} {s s0 s1 : Sg}
/-- an own list's flag -/
theorem flag_set (E : ER K mg s) {i : Nat} {b c : Bool} {ds : List D} (hi : s.ρ[i]? = some (some (.ow b ds))) : ER K mg ⟨s.M, s.ρ.set i (some (.ow c ds)), s.σ, s.H⟩ ∧ (∀ a, Sg.Own ⟨s.M, s.ρ.set i (some (.ow c ds)), s.σ, s.H⟩ a ↔ s.Own a) := by
  have hlt : i < s.ρ.length := (List.getElem?_eq_some_iff.mp hi).1
  have sub : ∀ (j : Nat) sv, (s.ρ.set i (some (.ow c ds)))[j]? = some (some sv) → (j = i ∧ sv = .ow c ds) ∨ (j ≠ i ∧ s.ρ[j]? = some (some sv)) := fun j sv e => by
    by_cases hj : i = j
    · subst hj; rw [List.getElem?_set_self hlt] at e; cases e; exact .inl ⟨rfl, rfl⟩
    · rw [List.getElem?_set_ne hj] at e
      exact .inr ⟨fun z => hj z.symm, e⟩
  have sub' : ∀ (j : Nat) sv, (s.ρ.set i (some (.ow c ds)))[j]? = some (some sv) → sv.own = true → ∃ sv', s.ρ[j]? = some (some sv') ∧ sv'.own = true := fun j sv e o => by
    rcases sub j sv e with ⟨z1, z2⟩ | ⟨z1, z2⟩
    · subst z1; exact ⟨_, hi, rfl⟩
    · exact ⟨sv, z2, o⟩
  refine ⟨⟨by simpa using E.len, fun j sv e => ?_, fun j k p q a e1 e2 e3 e4 e5 e6 => ?_, E.live⟩, fun a => ⟨fun w => own_of_sub (s := s) (s' := ⟨s.M, s.ρ.set i (some (.ow c ds)), s.σ, s.H⟩) rfl sub' w, fun ⟨j, sv, e1, e2, e3⟩ => ?_⟩⟩
  · rcases sub j sv e with ⟨z1, z2⟩ | ⟨z1, z2⟩
    · subst z1; subst z2
      obtain ⟨u, e2, r⟩ := E.slot j _ hi
      exact ⟨u, e2, r⟩
    · obtain ⟨u, e2, r⟩ := E.slot j sv z2
      refine ⟨u, e2, ?_⟩
      cases sv <;> exact r
  · obtain ⟨p', f1, f2⟩ := sub' j p e1 e2
    obtain ⟨q', f3, f4⟩ := sub' k q e4 e5
    exact E.inj j k p' q' a f1 f2 e3 f3 f4 e6
  · by_cases hj : i = j
    · subst hj
      exact ⟨i, .ow c ds, List.getElem?_set_self hlt, rfl, e3⟩
    · exact ⟨j, sv, (List.getElem?_set_ne hj).trans e1, e2, e3⟩
theorem grab_ok (E : ER K mg s) (t : Tr s0 s) {it : Its} (h : it.At s.ρ) : ER K mg ⟨s.M, it.grab s.ρ, s.σ, s.H⟩ ∧ Tr s0 ⟨s.M, it.grab s.ρ, s.σ, s.H⟩ := by
  unfold Its.grab
  split
  · exact ⟨E, t⟩
  · rename_i i b es hc
    have hi := h i b es hc
    obtain ⟨E', ow⟩ := flag_set (c := true) E hi
    refine ⟨E', ⟨t.ext, t.mt, t.mnew, t.mold, fun a w => t.own a ((ow a).mp w), fun j sv e l => ?_, by simpa using t.ln⟩⟩
    obtain ⟨⟨sv', e1, l1⟩, e2⟩ := t.lent j sv e l
    refine ⟨?_, e2⟩
    by_cases hj : i = j
    · subst hj
      exact ⟨_, List.getElem?_set_self (List.getElem?_eq_some_iff.mp hi).1, rfl⟩
    · exact ⟨sv', (List.getElem?_set_ne hj).trans e1, l1⟩
theorem free_ok {s2 : Sg} (E : ER K mg s2) (t0 : Tr s0 s) (t : Tr s0 s2) {it : Its} (h : it.At s.ρ) : ER K mg ⟨s2.M, it.free s2.ρ, s2.σ, s2.H⟩ ∧ Tr s0 ⟨s2.M, it.free s2.ρ, s2.σ, s2.H⟩ ∧ (∀ a, Sg.Own ⟨s2.M, it.free s2.ρ, s2.σ, s2.H⟩ a ↔ s2.Own a) := by
  unfold Its.free
  split
  · exact ⟨E, t, fun a => Iff.rfl⟩
  · rename_i i b es hc
    have hi := h i b es hc
    split
    · rename_i ds hi2
      obtain ⟨E', ow⟩ := flag_set (c := b) E hi2
      refine ⟨E', ⟨t.ext, t.mt, t.mnew, t.mold, fun a w => t.own a ((ow a).mp w), fun j sv e l => ?_, by simpa using t.ln⟩, ow⟩
      obtain ⟨⟨sv', e1, l1⟩, e2⟩ := t.lent j sv e l
      refine ⟨?_, e2⟩
      by_cases hj : i = j
      · subst hj
        obtain ⟨⟨sv3, e3, l3⟩, _⟩ := t0.lent i sv e l
        rw [hi] at e3; cases e3
        exact ⟨_, List.getElem?_set_self (List.getElem?_eq_some_iff.mp hi2).1, by cases b <;> first | rfl | cases l3⟩
      · exact ⟨sv', (List.getElem?_set_ne hj).trans e1, l1⟩
    · exact ⟨E, t, fun a => Iff.rfl⟩
end
section
variable {X : Cx} {W : WX} {s s0 s1 : Sg}
structure Walk (X : Cx) (s : Sg) (items : List D) (ok : Env → Bool) (J : It) : Prop where
  go : ∀ (s' : Sg) (i : Nat) (d : D), Tr s s' → ER X.K X.mg s' → ok s'.ρ = true → items[i]? = some d → J.go i s'.H
  yld : ∀ (s' : Sg) (i : Nat) (d : D) (x : V) (H2 : Hp), Tr s s' → ER X.K X.mg s' → ok s'.ρ = true → items[i]? = some d → J.yld i s'.H x H2 → ∃ M2, Tr s' ⟨M2, s'.ρ, s'.σ, H2⟩ ∧ ER X.K X.mg ⟨M2, s'.ρ, s'.σ, H2⟩ ∧ Rep X.K H2 M2 d x
  stop : ∀ (s' : Sg), Tr s s' → ER X.K X.mg s' → ok s'.ρ = true → J.stop items.length s'.H
def RW (X : Cx) (H0 : Hp) (s : Sg) (t : Its) (J : It) : Prop := t.At s.ρ ∧ Walk X ⟨s.M, t.grab s.ρ, s.σ, s.H⟩ t.ds t.ok J
structure DI (X : Cx) (W : WX) (tg iter : Expr) (f : Env → Out Its) : Prop where
  run : ∀ s R, ER X.K X.mg s → Goal X W (RW X) s (f s.ρ) R → wI X tg iter s.σ s.H R
/-! ### for -/
def forL (ok : Env → Bool) (g : D → Env → Option Env) (fb : Env → Out Fl) : List D → Env → Out Fl
  | [], ρ => if ok ρ = true then .ok .nx ρ else .stuck
  | d :: ds, ρ => if ok ρ = true then (match g d ρ with
    | some ρ1 => (fb ρ1).turn (forL ok g fb ds)
    | none => .stuck) else .stuck
def Out.back (o : Out Fl) (k : Env → Env) : Out Fl := match o with
  | .ok .nx ρ => .ok .nx (k ρ)
  | o => o
@[simp] theorem Out.back_nx (ρ : Env) (k : Env → Env) : (Out.ok Fl.nx ρ).back k = .ok .nx (k ρ) := rfl
@[simp] theorem Out.back_rt (v : EV) (ρ : Env) (k : Env → Env) : (Out.ok (Fl.rt v) ρ).back k = .ok (.rt v) ρ := rfl
@[simp] theorem Out.back_exc (c : Str) (fs : List (Str × D)) (ρ : Env) (k : Env → Env) : (Out.exc c fs ρ).back k = .exc c fs ρ := rfl
@[simp] theorem Out.back_stuck (k : Env → Env) : (Out.stuck).back k = .stuck := rfl
theorem back_goal {o : Out Fl} {it : Its} {D : Ends} (E0 : ER X.K X.mg s0) (t0 : Tr s0 s) (h : it.At s.ρ) (g : SGoal X W s0 (o.back it.free) D) : SGoal X W s0 o D := by
  cases o with
  | ok fl ρ' =>
    cases fl with
    | nx =>
      intro σ' M' H' t E
      obtain ⟨a1, a2, _⟩ := free_ok (s2 := ⟨M', ρ', σ', H'⟩) E t0 t h
      exact g σ' M' H' a2 a1
    | ct => exact g
    | bk => exact g
    | rt v => exact g
  | exc c fs ρ' => exact g
  | stuck => exact g
def dFor (f : Env → Out Its) (g : D → Env → Option Env) (fb : Env → Out Fl) : Env → Out Fl := fun ρ => (f ρ).bind fun t ρ1 => (forL t.ok g fb t.ds (t.grab ρ1)).back t.free
theorem ds_for {tg iter : Expr} {body : List Stmt} {f : Env → Out Its} {g : D → Env → Option Env} {vs : List Nat} {fb : Env → Out Fl} {pos : Pos} (C : DC X W) (hi : DI X W tg iter f) (hg : DG X tg vs g) (hb : DSs X W body fb)
    (hs : ∀ x, foldedSetIterable iter X.env x = pure x := by intro _; rfl) : DS X W (.For tg iter body [] pos) (dFor f g fb) := by
  refine ⟨fun s D E h => (ps_for C.po C.calm (pi_w X tg iter) (pg_w X tg) (pss_w body) hs).w ?_⟩
  refine hi.run s _ E ((SGoal.bind0 E h).mono fun J H1 ⟨tt, s1', hσ, hH, _, t1', _, E1', ⟨hat, wk⟩, g1'⟩ => ?_)
  subst hH
  have g1 := back_goal E t1' hat g1'
  clear g1'
  obtain ⟨E1, t1⟩ := grab_ok E1' t1' hat
  show ∃ _, _
  revert E1 t1 wk g1
  generalize hs1 : (⟨s1'.M, tt.grab s1'.ρ, s1'.σ, s1'.H⟩ : Sg) = s1
  have e0 : tt.grab s1'.ρ = s1.ρ := by rw [← hs1]
  have e1 : s1'.H = s1.H := by rw [← hs1]
  have e2 : s1.σ = s.σ := by rw [← hs1]; exact hσ
  rw [e0]
  intro wk g1 E1 t1
  generalize hit : tt.ds = items at wk g1
  generalize hok : tt.ok = ok at wk g1
  refine ⟨fun i m σ H => m = items.length - i ∧ i ≤ items.length ∧ ∃ s', s'.σ = σ ∧ s'.H = H ∧ Tr s s' ∧ Tr s1 s' ∧ ER X.K X.mg s' ∧ SGoal X W s (forL ok g fb (items.drop i) s'.ρ) D, ⟨items.length, rfl, Nat.zero_le _, s1, e2, e1.symm, t1, Tr.refl E1, E1, g1⟩, fun i m σ H ⟨hm, hi', s2, e1, e2, t2, t12, E2, g2⟩ => ?_⟩
  subst e1; subst e2
  by_cases hlt : i < items.length
  · have hd : items[i]? = some items[i] := List.getElem?_eq_getElem hlt
    rw [List.drop_eq_getElem_cons hlt] at g2
    simp only [forL] at g2
    split at g2
    · rename_i hk
      split at g2
      · rename_i ρ3 e3
        refine .inr ⟨wk.go s2 i _ t12 E2 hk hd, fun σ' H' => ∃ s', s'.σ = σ' ∧ s'.H = H' ∧ Tr s s' ∧ Tr s1 s' ∧ ER X.K X.mg s' ∧ SGoal X W s (forL ok g fb (items.drop (i + 1)) s'.ρ) D, fun σ' H' ⟨s', h1, h2, h3, h4, h5, h6⟩ => ⟨items.length - (i + 1), by omega, rfl, by omega, s', h1, h2, h3, h4, h5, h6⟩, fun x H2 hy => ?_⟩
        obtain ⟨M2, t3, E3, r3⟩ := wk.yld s2 i _ x H2 t12 E2 hk hd hy
        refine hg.run s2 ⟨M2, s2.ρ, s2.σ, H2⟩ _ x ρ3 _ E3 t3 r3 e3 fun σ4 M4 H4 t4 E4 _ => ?_
        refine hb.run ⟨M4, ρ3, σ4, H4⟩ _ E4 ?_
        have := SGoal.turn2 (s := ⟨M4, ρ3, σ4, H4⟩) E (t2.trans t4) g2
        cases q : fb ρ3 with
        | ok fl ρ' =>
          rw [q] at this
          cases fl with
          | nx => exact fun σ' M' H' t' E' => let ⟨s', h1, h2, h3, h4, h5, h6⟩ := this σ' M' H' t' E'; ⟨s', h1, h2, h3, (t12.trans t4).trans h4, h5, h6⟩
          | ct => exact fun σ' M' H' t' E' => let ⟨s', h1, h2, h3, h4, h5, h6⟩ := this σ' M' H' t' E'; ⟨s', h1, h2, h3, (t12.trans t4).trans h4, h5, h6⟩
          | bk => exact this
          | rt v => exact this
        | exc c fs ρ' => rw [q] at this; exact this
        | stuck => rw [q] at this; exact this
      · exact g2.elim
    · exact g2.elim
  · have e : i = items.length := by omega
    subst e
    rw [List.drop_length] at g2
    simp only [forL] at g2
    split at g2
    · rename_i hk
      exact .inl ⟨wk.stop s2 t12 E2 hk, g2.fin_nx t2 E2⟩
    · exact g2.elim
end
end DL
namespace DL
open PySem PySem.Spec PyProof.Rows L2

/-- one sign -/
def sign (c : Nat) : D := .str ⟨#[c]⟩
def itemsOf : EV → Env → Option Its
  | .sh (.list ds), _ => some ⟨ds, none⟩
  | .sh (.tuple ds), _ => some ⟨ds, none⟩
  | .sh (.str x), _ => some ⟨x.cps.toList.map sign, none⟩
  | .fr ds, _ => some ⟨ds, none⟩
  | .sc ns, _ => some ⟨ns.map .int, none⟩
  | .bo i, ρ => (match ρ[i]? with
    | some (some (.ow b ds)) => some ⟨ds, some (i, b, ds)⟩
    | _ => none)
  | _, _ => none
def fItems (v : EV) (ρ : Env) : Out Its := match itemsOf v ρ with
  | some t => .ok t ρ
  | none => .stuck
def dIt (f : Env → Out EV) : Env → Out Its := fun ρ => (f ρ).bind fItems
theorem sign_len {c : Nat} : (⟨#[c]⟩ : Str).length ≤ sizeLine := by rw [sizeLine_eq]; show 1 ≤ _; decide

section
variable {X : Cx} {W : WX} {s s0 s1 : Sg}
theorem walk_lst {a : Addr} {xs : List V} {ds : List D} (hL : ∀ s', Tr s s' → ER X.K X.mg s' → SqL X.K s'.H a xs) (hu : ∀ s' ys, Tr s s' → ER X.K X.mg s' → SqL X.K s'.H a ys → True) (r : Reps X.K s.H s.M ds xs) (E : ER X.K X.mg s) : Walk X s ds (fun _ => true) (Itl X.K a) where
  go := fun s' i d t E' _ e => by
    obtain ⟨x, hx, _⟩ := (Reps.tr E t r).get e
    exact ⟨xs, x, hL s' t E', hx⟩
  yld := fun s' i d x H2 t E' _ e h => by
    obtain ⟨rfl, h⟩ := h
    obtain ⟨y, hy, ry⟩ := (Reps.tr E t r).get e
    have := h xs (hL s' t E')
    rw [hy] at this; cases this
    exact ⟨s'.M, Tr.refl E', E', ry⟩
  stop := fun s' t E' _ => ⟨xs, hL s' t E', by rw [r.length]; exact Nat.le_refl _⟩
theorem walk_tup {a : Addr} {xs : List V} {ds : List D} (hT : SqT X.K s.H a xs) (r : Reps X.K s.H s.M ds xs) (E : ER X.K X.mg s) : Walk X s ds (fun _ => true) (Itt X.K a) := by
  have hh : ∀ s', Tr s s' → SqT X.K s'.H a xs := fun s' t => hT.imp (fun z => move_t E t a xs z) id
  exact {
    go := fun s' i d t E' _ e => by
      obtain ⟨x, hx, _⟩ := (Reps.tr E t r).get e
      exact ⟨xs, x, hh s' t, hx⟩
    yld := fun s' i d x H2 t E' _ e h => by
      obtain ⟨rfl, h⟩ := h
      obtain ⟨y, hy, ry⟩ := (Reps.tr E t r).get e
      have := h xs (hh s' t)
      rw [hy] at this; cases this
      exact ⟨s'.M, Tr.refl E', E', ry⟩
    stop := fun s' t E' _ => ⟨xs, hh s' t, by rw [r.length]; exact Nat.le_refl _⟩ }
theorem walk_str {x : Str} (E : ER X.K X.mg s) : Walk X s (x.cps.toList.map sign) (fun _ => true) (L2.Its x) where
  go := fun s' i d t E' _ e => by
    have : i < (x.cps.toList.map sign).length := (List.getElem?_eq_some_iff.mp e).1
    show i < x.cps.size
    simpa using this
  yld := fun s' i d v H2 t E' _ e h => by
    obtain ⟨rfl, c, hc, rfl⟩ := h
    refine ⟨s'.M, Tr.refl E', E', ?_⟩
    have : (x.cps.toList.map sign)[i]? = some (sign c) := by
      rw [List.getElem?_map, Array.getElem?_toList, hc]; rfl
    rw [this] at e; cases e
    exact rep_str sign_len
  stop := fun s' t E' _ => by
    show x.cps.size ≤ (x.cps.toList.map sign).length
    simp
theorem rw_none {H0 : Hp} {ds : List D} {J : It} (h : Walk X s ds (fun _ => true) J) : RW X H0 s ⟨ds, none⟩ J := ⟨fun _ _ _ e => (nomatch e), h⟩
theorem walk_own {i : Nat} {b : Bool} {ds : List D} {a : Addr} (hi : s.ρ[i]? = some (some (.ow b ds))) (hu : s.σ[i]? = some (some (.ref a))) (E : ER X.K X.mg s) : Walk X ⟨s.M, (Its.mk ds (some (i, b, ds))).grab s.ρ, s.σ, s.H⟩ ds (Its.mk ds (some (i, b, ds))).ok (Itl X.K a) := by
  have key : ∀ s', Tr ⟨s.M, (Its.mk ds (some (i, b, ds))).grab s.ρ, s.σ, s.H⟩ s' → ER X.K X.mg s' → (Its.mk ds (some (i, b, ds))).ok s'.ρ = true → ∃ xs, s'.H a = some (.lst xs) ∧ Reps X.K s'.H s'.M ds xs := fun s' t E' hk => by
    have hlt : i < s.ρ.length := (List.getElem?_eq_some_iff.mp hi).1
    obtain ⟨_, e2⟩ := t.lent i (.ow true ds) (List.getElem?_set_self hlt) rfl
    have e2 : s'.σ[i]? = s.σ[i]? := e2
    unfold Its.ok at hk
    simp only at hk
    split at hk
    · rename_i ds' hi2
      have hd := sameL_eq _ _ hk
      subst hd
      obtain ⟨u, k1, a', xs, k2, k3, k4, k5⟩ := E'.slot i _ hi2
      rw [e2, hu] at k1; cases k1; cases k2
      exact ⟨xs, k3, k5⟩
    · cases hk
  exact {
    go := fun s' j d t E' hk e => by
      obtain ⟨xs, h1, h2⟩ := key s' t E' hk
      obtain ⟨x, hx, _⟩ := h2.get e
      exact ⟨xs, x, .of h1, hx⟩
    yld := fun s' j d x H2 t E' hk e h => by
      obtain ⟨rfl, h⟩ := h
      obtain ⟨xs, h1, h2⟩ := key s' t E' hk
      obtain ⟨y, hy, ry⟩ := h2.get e
      have := h xs (.of h1)
      rw [hy] at this; cases this
      exact ⟨s'.M, Tr.refl E', E', ry⟩
    stop := fun s' t E' hk => by
      obtain ⟨xs, h1, h2⟩ := key s' t E' hk
      exact ⟨xs, .of h1, by rw [h2.length]; exact Nat.le_refl _⟩ }
/-- over data -/
theorem di_data {tg e : Expr} {f : Env → Out EV} (h : DE X W e f) : DI X W tg e (dIt f) := by
  refine ⟨fun s R E g => ?_⟩
  unfold dIt at g
  have b := GoalK.bind0 (R := RE X) E g
  cases q : f s.ρ with
  | stuck => rw [q] at g; exact g.elim
  | exc c fs ρ =>
    refine (pi_tup (pe_w e)).w (h.run s _ E ?_)
    rw [q] at g ⊢
    exact g
  | ok v ρ =>
    have byL : (∀ u s2, s2.σ = s.σ → Tr s s2 → ER X.K X.mg s2 → RE X s.H s2 v u → Goal X W (RW X) s (fItems v s2.ρ) R → ∃ a, u = .ref a ∧ (∃ xs, SqL X.K s2.H a xs) ∧ R (Itl X.K a) s2.H) → wI X tg e s.σ s.H R := fun k =>
      (pi_list (pe_w e)).w ((h.run s _ E b).mono fun u H2 ⟨v', s2, hσ, hH, e1, t, _, E2, r, g2⟩ => by
        subst hH
        rw [q] at e1; cases e1
        exact k u s2 hσ t E2 r g2)
    have byT : (∀ u s2, s2.σ = s.σ → Tr s s2 → ER X.K X.mg s2 → RE X s.H s2 v u → Goal X W (RW X) s (fItems v s2.ρ) R → ∃ a, u = .ref a ∧ (∃ xs, SqT X.K s2.H a xs) ∧ R (Itt X.K a) s2.H) → wI X tg e s.σ s.H R := fun k =>
      (pi_tup (pe_w e)).w ((h.run s _ E b).mono fun u H2 ⟨v', s2, hσ, hH, e1, t, _, E2, r, g2⟩ => by
        subst hH
        rw [q] at e1; cases e1
        exact k u s2 hσ t E2 r g2)
    have byS : (∀ u s2, s2.σ = s.σ → Tr s s2 → ER X.K X.mg s2 → RE X s.H s2 v u → Goal X W (RW X) s (fItems v s2.ρ) R → ∃ x, u = .str x ∧ R (L2.Its x) s2.H) → wI X tg e s.σ s.H R := fun k =>
      (pi_str (pe_w e)).w ((h.run s _ E b).mono fun u H2 ⟨v', s2, hσ, hH, e1, t, _, E2, r, g2⟩ => by
        subst hH
        rw [q] at e1; cases e1
        exact k u s2 hσ t E2 r g2)
    have no : fItems v ρ = .stuck → wI X tg e s.σ s.H R := fun z => by
      rw [q] at g
      exact (show False by
        have g : Goal X W (RW X) s (fItems v ρ) R := g
        rw [z] at g; exact g).elim
    cases v with
    | bo i =>
      refine byL fun u s2 hσ t E2 ⟨r, _⟩ g2 => ?_
      have hu : s2.σ[i]? = some (some u) := r
      unfold fItems itemsOf at g2
      split at g2
      · rename_i it e2
        simp only at e2
        split at e2
        · rename_i b ds hi
          cases e2
          obtain ⟨u', k1, a, xs, k2, k3, k4, k5⟩ := E2.slot i _ hi
          rw [hu] at k1; cases k1
          subst k2
          refine ⟨a, rfl, ⟨xs, .of k3⟩, g2.fin hσ t E2 ⟨fun j c es hc => ?_, ?_⟩⟩
          · cases hc; exact hi
          · exact walk_own hi hu E2
        · cases e2
      · exact g2.elim
    | fn x => exact no rfl
    | sc ns =>
      refine byL fun u s2 hσ t E2 ⟨r, _⟩ g2 => ?_
      obtain ⟨a, rfl, hq⟩ := ScR.sql r
      refine ⟨a, rfl, ⟨_, hq⟩, g2.fin hσ t E2 (rw_none <| walk_lst (xs := ns.map V.int) (fun s' t' E' => ?_) (fun _ _ _ _ _ => trivial) (reps_ints ns) E2)⟩
      obtain ⟨a', e', hq'⟩ := ScR.sql (ScR.tr E2 t' r)
      cases e'; exact hq'
    | fr ds =>
      refine byL fun u s2 hσ t E2 ⟨r, _⟩ g2 => ?_
      obtain ⟨a, xs, rfl, hh, hm, hn, rr⟩ := r
      exact ⟨a, rfl, ⟨xs, .of hh⟩, g2.fin hσ t E2 (rw_none <| walk_lst (fun s' t' E' => .of (t'.ext a _ hh hn)) (fun _ _ _ _ _ => trivial) rr E2)⟩
    | sh d =>
      cases d with
      | list ds =>
        refine byL fun u s2 hσ t E2 ⟨r, _⟩ g2 => ?_
        have r : Rep X.K s2.H s2.M (.list ds) u := r
        simp only [Rep] at r
        obtain ⟨a, xs, rfl, hh, hm, rr⟩ := r
        exact ⟨a, rfl, ⟨xs, .of hh⟩, g2.fin hσ t E2 (rw_none <| walk_lst (fun s' t' E' => .of (move_l E2 t' a xs hh hm).1) (fun _ _ _ _ _ => trivial) rr E2)⟩
      | tuple ds =>
        refine byT fun u s2 hσ t E2 ⟨r, _⟩ g2 => ?_
        have r : Rep X.K s2.H s2.M (.tuple ds) u := r
        simp only [Rep] at r
        obtain ⟨a, xs, rfl, hh, rr⟩ := r
        exact ⟨a, rfl, ⟨xs, hh⟩, g2.fin hσ t E2 (rw_none <| walk_tup hh rr E2)⟩
      | str x =>
        refine byS fun u s2 hσ t E2 ⟨r, _⟩ g2 => ?_
        have r : Rep X.K s2.H s2.M (.str x) u := r
        simp only [Rep] at r
        obtain ⟨rfl, _⟩ := r
        exact ⟨x, rfl, g2.fin hσ t E2 (rw_none <| walk_str E2)⟩
      | none => exact no rfl
      | bool b => exact no rfl
      | int i => exact no rfl
      | dict kvs => exact no rfl
/-! ### ranges -/
def rng (lo : Int) (n : Nat) : List D := (List.range n).map fun (i : Nat) => .int (lo + (i : Int))
theorem rng_len {lo : Int} {n : Nat} : (rng lo n).length = n := by simp [rng]
theorem rng_get {lo : Int} {n i : Nat} {d : D} (h : (rng lo n)[i]? = some d) : i < n ∧ d = .int (lo + (i : Int)) := by
  have hi : i < n := by have := (List.getElem?_eq_some_iff.mp h).1; rwa [rng_len] at this
  refine ⟨hi, ?_⟩
  unfold rng at h
  rw [List.getElem?_map, List.getElem?_range hi] at h
  exact (Option.some.inj h).symm
theorem walk_rng {lo : Int} {n : Nat} : Walk X s (rng lo n) (fun _ => true) (Itr lo n) where
  go := fun s' i d t E' _ e => (rng_get e).1
  yld := fun s' i d x H2 t E' _ e h => by
    obtain ⟨rfl, rfl⟩ := h
    obtain ⟨_, rfl⟩ := rng_get e
    exact ⟨s'.M, Tr.refl E', E', rep_int⟩
  stop := fun s' t E' _ => by rw [rng_len]; exact Nat.le_refl _
def inC (j : Int) : Bool := Nat.ble j.natAbs 4611686018427387903
theorem inC_of {j : Int} (h : inC j = true) : -(2 ^ 62) ≤ j ∧ j < 2 ^ 62 := by
  have := Nat.le_of_ble_eq_true h
  omega
def fRng1 (vs : List EV) (ρ : Env) : Out Its := match vs with
  | [.sh (.int j)] => if inC j = true then .ok ⟨rng 0 j.toNat, none⟩ ρ else .stuck
  | _ => .stuck
def fRng2 (vs : List EV) (ρ : Env) : Out Its := match vs with
  | [.sh (.int i), .sh (.int j)] => if inC i = true ∧ inC j = true then .ok ⟨rng i (j - i).toNat, none⟩ ρ else .stuck
  | _ => .stuck
theorem di_range1 {tg a : Expr} {p pos : Pos} {f : Env → Out (List EV)} (hg : Gl X "range") (hm : X.mg "range" = none) (ha : DEs X W [a] f) (hs : starEach [a] X.env = [(false, eval a X.env)] := by rfl) :
    DI X W tg (.Call (.Name "range" p) [a] [] pos) (fun ρ => (f ρ).bind fRng1) := by
  refine ⟨fun s R E g => (pi_range1 hg hm (pa_w _) hs).w ?_⟩
  refine (ha.run s _ E (GoalK.bind0 E g)).mono fun us H2 ⟨vs, s2, hσ, hH, _, t, _, E2, r, g2⟩ => ?_
  subst hH
  unfold fRng1 at g2
  split at g2
  · split at g2
    · rename_i hj
      cases r with
      | cons r1 rr =>
        cases rr
        have e := ofS_int (Rep.top (show Rep _ _ _ _ _ from r1)).s
        subst e
        exact ⟨_, rfl, (inC_of hj).1, (inC_of hj).2, g2.fin hσ t E2 (rw_none walk_rng)⟩
    · exact g2.elim
  · exact g2.elim
theorem di_range2 {tg a b : Expr} {p pos : Pos} {f : Env → Out (List EV)} (hg : Gl X "range") (hm : X.mg "range" = none) (ha : DEs X W [a, b] f) (hs : starEach [a, b] X.env = [(false, eval a X.env), (false, eval b X.env)] := by rfl) (hs2 : starEach [b] X.env = [(false, eval b X.env)] := by rfl) :
    DI X W tg (.Call (.Name "range" p) [a, b] [] pos) (fun ρ => (f ρ).bind fRng2) := by
  refine ⟨fun s R E g => (pi_range2 hg hm (pa_w _) hs hs2).w ?_⟩
  refine (ha.run s _ E (GoalK.bind0 E g)).mono fun us H2 ⟨vs, s2, hσ, hH, _, t, _, E2, r, g2⟩ => ?_
  subst hH
  unfold fRng2 at g2
  split at g2
  · split at g2
    · rename_i hj
      cases r with
      | cons r1 rr =>
        cases rr with
        | cons r2 rr =>
          cases rr
          have e := ofS_int (Rep.top (show Rep _ _ _ _ _ from r1)).s
          subst e
          have e := ofS_int (Rep.top (show Rep _ _ _ _ _ from r2)).s
          subst e
          exact ⟨_, _, rfl, ⟨(inC_of hj.1).1, (inC_of hj.1).2, (inC_of hj.2).1, (inC_of hj.2).2⟩, g2.fin hσ t E2 (rw_none walk_rng)⟩
    · exact g2.elim
  · exact g2.elim
end
end DL
namespace DL
open PySem PySem.Spec PyProof.Rows L2

/-! ### a block's own names -/
def wipeE (ρ : Env) (vs : List Nat) : Env := ρ.mapIdx fun i o => if vs.contains i = true then none else o
def unwipe (ρ0 ρ : Env) (vs : List Nat) : Env := ρ.mapIdx fun i o => if vs.contains i = true then ρ0.getD i none else o
def noOwn (ρ : Env) (vs : List Nat) : Bool := vs.all fun i => match ρ[i]? with
  | some (some sv) => !sv.own
  | _ => true
def noX {α : Type} : Out α → Out α
  | .exc _ _ _ => .stuck
  | o => o
@[simp] theorem noX_ok {α : Type} (a : α) (ρ : Env) : noX (.ok a ρ) = .ok a ρ := rfl
@[simp] theorem noX_stuck {α : Type} : noX (.stuck : Out α) = .stuck := rfl
theorem Out.bind_assoc {α β γ : Type} (o : Out α) (g : α → Env → Out β) (k : β → Env → Out γ) : (o.bind g).bind k = o.bind fun a ρ => (g a ρ).bind k := by
  cases o <;> rfl
def Wf : WX := fun _ _ _ _ => False

theorem wipeE_get {ρ : Env} {vs : List Nat} {i : Nat} {sv : SV} : (wipeE ρ vs)[i]? = some (some sv) ↔ (i ∉ vs ∧ ρ[i]? = some (some sv)) := by
  unfold wipeE
  rw [List.getElem?_mapIdx]
  by_cases h : vs.contains i = true
  · have hm : i ∈ vs := by simpa using h
    cases q : ρ[i]? <;> simp [h, hm]
  · have hm : i ∉ vs := by simpa using h
    cases q : ρ[i]? <;> simp [h, hm]
theorem wipeE_len {ρ : Env} {vs : List Nat} : (wipeE ρ vs).length = ρ.length := by simp [wipeE]
theorem unwipe_get {ρ0 ρ : Env} {vs : List Nat} {i : Nat} {sv : SV} (hl : ρ0.length = ρ.length) : (unwipe ρ0 ρ vs)[i]? = some (some sv) ↔ ((i ∈ vs ∧ ρ0[i]? = some (some sv)) ∨ (i ∉ vs ∧ ρ[i]? = some (some sv))) := by
  unfold unwipe
  rw [List.getElem?_mapIdx]
  by_cases h : vs.contains i = true
  · have hm : i ∈ vs := by simpa using h
    cases q : ρ[i]? with
    | none =>
      have h0 : ρ0[i]? = none := by
        rw [List.getElem?_eq_none_iff] at q ⊢; omega
      simp [hm, h0]
    | some o =>
      have hi : i < ρ0.length := by have := (List.getElem?_eq_some_iff.mp q).1; omega
      simp [hm, List.getD, List.getElem?_eq_getElem hi]
  · have hm : i ∉ vs := by simpa using h
    cases q : ρ[i]? <;> simp [hm]
theorem noOwn_of {ρ : Env} {vs : List Nat} (h : noOwn ρ vs = true) {i : Nat} {sv : SV} (hi : i ∈ vs) (e : ρ[i]? = some (some sv)) : sv.own = false := by
  unfold noOwn at h
  rw [List.all_eq_true] at h
  have := h i hi
  rw [e] at this
  simpa using this
theorem wipe_in {σ : L2.St} {i : Nat} : ∀ {vs : List Nat}, i ∈ vs → i < σ.length → (wipe σ vs)[i]? = some none
  | v :: vs, h, hl => by
    unfold wipe
    by_cases e : v = i
    · subst e
      rw [List.getElem?_set_self (by rw [wipe_length]; exact hl)]
    · rw [List.getElem?_set_ne e]
      exact wipe_in ((List.mem_cons.mp h).resolve_left fun z => e z.symm) hl
theorem wipe_same {vs : List Nat} {σ σ' : L2.St} (h : SameOut vs σ σ') : wipe σ' vs = wipe σ vs := by
  apply List.ext_getElem?
  intro i
  by_cases hi : i ∈ vs
  · by_cases hl : i < σ.length
    · rw [wipe_in hi hl, wipe_in hi (by rw [h.1]; exact hl)]
    · rw [List.getElem?_eq_none (by rw [wipe_length, h.1]; omega), List.getElem?_eq_none (by rw [wipe_length]; omega)]
  · rw [wipe_out hi, wipe_out hi]
    exact h.2 i hi
theorem wipe_idem {vs : List Nat} {σ : L2.St} : wipe (wipe σ vs) vs = wipe σ vs := wipe_same ⟨wipe_length _ _, fun j hj => wipe_out hj⟩

section
variable {K : PySem.W.Frag} {mg : Str → Option Value} {s s0 s1 : Sg}
theorem er_wipe (E : ER K mg s) (vs : List Nat) : ER K mg ⟨s.M, wipeE s.ρ vs, wipe s.σ vs, s.H⟩ := by
  refine ⟨by rw [wipeE_len, wipe_length]; exact E.len, fun i sv e => ?_, fun i j p q a e1 e2 e3 e4 e5 e6 => ?_, E.live⟩
  · obtain ⟨h1, h2⟩ := wipeE_get.mp e
    obtain ⟨u, e2, r⟩ := E.slot i sv h2
    refine ⟨u, (wipe_out h1).trans e2, ?_⟩
    cases sv <;> exact r
  · obtain ⟨h1, h2⟩ := wipeE_get.mp e1
    obtain ⟨h3, h4⟩ := wipeE_get.mp e4
    exact E.inj i j p q a h2 e2 ((wipe_out h1).symm.trans e3) h4 e5 ((wipe_out h3).symm.trans e6)
theorem own_wipe {vs : List Nat} {b : Addr} (h : Sg.Own ⟨s.M, wipeE s.ρ vs, wipe s.σ vs, s.H⟩ b) : s.Own b := by
  obtain ⟨i, sv, e1, e2, e3⟩ := h
  obtain ⟨h1, h2⟩ := wipeE_get.mp e1
  exact ⟨i, sv, h2, e2, (wipe_out h1).symm.trans e3⟩
theorem own_wipe' {vs : List Nat} {b : Addr} (hn : noOwn s.ρ vs = true) (h : s.Own b) : Sg.Own ⟨s.M, wipeE s.ρ vs, wipe s.σ vs, s.H⟩ b := by
  obtain ⟨i, sv, e1, e2, e3⟩ := h
  have hi : i ∉ vs := fun z => by
    have := noOwn_of hn z e1
    rw [e2] at this; cases this
  exact ⟨i, sv, wipeE_get.mpr ⟨hi, e1⟩, e2, (wipe_out hi).trans e3⟩
/-- a turn's end to the next turn's start -/
theorem tr_wipe {vs : List Nat} (hn : ∀ (i : Nat) (sv : SV), i ∈ vs → s0.ρ[i]? = some (some sv) → sv.lent = true → False) (t : Tr s0 s) (hσ : ∀ (j : Nat), j ∉ vs → (wipe s.σ vs)[j]? = s.σ[j]?) : Tr s0 ⟨s.M, wipeE s.ρ vs, wipe s.σ vs, s.H⟩ where
  ext := t.ext
  mt := t.mt
  mnew := t.mnew
  mold := t.mold
  own := fun b h => t.own b (own_wipe h)
  lent := fun i sv e l => by
    have hi : i ∉ vs := fun z => hn i sv z e l
    obtain ⟨⟨sv', e1, l1⟩, e2⟩ := t.lent i sv e l
    exact ⟨⟨sv', wipeE_get.mpr ⟨hi, e1⟩, l1⟩, (hσ i hi).trans e2⟩
  ln := by rw [wipeE_len]; exact t.ln
/-- behind the block -/
theorem er_unwipe {vs : List Nat} {ρ : Env} (E1 : ER K mg s1) (hn : noOwn s1.ρ vs = true) (E : ER K mg s) (t : Tr ⟨s1.M, wipeE s1.ρ vs, wipe s1.σ vs, s1.H⟩ s) (hρ : s.ρ = wipeE ρ vs) (hσ : s.σ = wipe s1.σ vs) :
    ER K mg ⟨s.M, unwipe s1.ρ ρ vs, s1.σ, s.H⟩ ∧ Tr s1 ⟨s.M, unwipe s1.ρ ρ vs, s1.σ, s.H⟩ ∧ (∀ b, Sg.Own ⟨s.M, unwipe s1.ρ ρ vs, s1.σ, s.H⟩ b → s.Own b) := by
  have E1w := er_wipe E1 vs
  have hl : s1.ρ.length = ρ.length := by
    have h1 : s.ρ.length = (wipeE s1.ρ vs).length := t.ln
    rw [hρ, wipeE_len] at h1
    have h2 : (wipeE s1.ρ vs).length = s1.ρ.length := wipeE_len
    omega
  have slot : ∀ (i : Nat) (sv : SV), (unwipe s1.ρ ρ vs)[i]? = some (some sv) → (i ∈ vs ∧ s1.ρ[i]? = some (some sv) ∧ sv.own = false) ∨ (i ∉ vs ∧ s.ρ[i]? = some (some sv) ∧ s1.σ[i]? = s.σ[i]?) := fun i sv e => by
    rcases (unwipe_get hl).mp e with ⟨h1, h2⟩ | ⟨h1, h2⟩
    · exact .inl ⟨h1, h2, noOwn_of hn h1 h2⟩
    · refine .inr ⟨h1, by rw [hρ]; exact wipeE_get.mpr ⟨h1, h2⟩, by rw [hσ]; exact (wipe_out h1).symm⟩
  have own : ∀ b, Sg.Own ⟨s.M, unwipe s1.ρ ρ vs, s1.σ, s.H⟩ b → s.Own b := by
    rintro b ⟨i, sv, e1, e2, e3⟩
    rcases slot i sv e1 with ⟨_, _, h⟩ | ⟨_, h1, h2⟩
    · rw [e2] at h; cases h
    · exact ⟨i, sv, h1, e2, h2.symm.trans e3⟩
  refine ⟨⟨?_, fun i sv e => ?_, fun i j p q a e1 e2 e3 e4 e5 e6 => ?_, E.live⟩, ⟨fun b o h hw => t.ext b o h fun z => hw (own_wipe z), fun b h => t.mt b (own_wipe' hn h), t.mnew, fun b o h ho hw => t.mold b o h ho fun z => hw (own_wipe z), fun b h => (t.own b (own b h)).imp own_wipe id, fun i sv e l => ?_, ?_⟩, own⟩
  · simp [unwipe]; rw [← hl]; exact E1.len
  · rcases slot i sv e with ⟨_, h1, h2⟩ | ⟨_, h1, h2⟩
    · obtain ⟨u, e2, r⟩ := E1.slot i sv h1
      refine ⟨u, e2, ?_⟩
      cases sv with
      | sh d => exact Rep.tr E1w t (show Rep K s1.H s1.M d u from r)
      | ow b ds => cases h2
      | fn x => exact r
      | sc ns => exact ScR.tr E1w t (show ScR K s1.H ns u from r)
    · obtain ⟨u, e2, r⟩ := E.slot i sv h1
      refine ⟨u, h2.trans e2, ?_⟩
      cases sv <;> exact r
  · rcases slot i p e1 with ⟨_, _, h⟩ | ⟨_, h1, h2⟩
    · rw [e2] at h; cases h
    · rcases slot j q e4 with ⟨_, _, h⟩ | ⟨_, h3, h4⟩
      · rw [e5] at h; cases h
      · exact E.inj i j p q a h1 e2 (h2.symm.trans e3) h3 e5 (h4.symm.trans e6)
  · have hi : i ∉ vs := fun z => by
      have := noOwn_of hn z e
      rw [SV.own_of_lent l] at this; cases this
    obtain ⟨⟨sv', e1, l1⟩, e2⟩ := t.lent i sv (wipeE_get.mpr ⟨hi, e⟩) l
    refine ⟨⟨sv', (unwipe_get hl).mpr (.inr ⟨hi, ?_⟩), l1⟩, rfl⟩
    rw [hρ] at e1
    exact (wipeE_get.mp e1).2
  · show (unwipe s1.ρ ρ vs).length = _
    simp [unwipe]; omega
end
section
variable {X : Cx} {W : WX} {s s0 s1 sB : Sg}
theorem GoalK.block {α β α' β' : Type} {R : Hp → Sg → α → β → Prop} {R' : Hp → Sg → α' → β' → Prop} {o : Out α} {g : α → Env → Out α'} {Q : β' → Hp → Prop} (h : Goal X W R' s0 ((noX o).bind g) Q) (sB : Sg) :
    GoalK X.K X.mg Wf R sB o (fun u H2 => ∃ v s2, s2.σ = sB.σ ∧ s2.H = H2 ∧ o = .ok v s2.ρ ∧ Tr sB s2 ∧ ER X.K X.mg s2 ∧ R sB.H s2 v u ∧ Goal X W R' s0 (g v s2.ρ) Q) := by
  cases o with
  | ok v ρ' => exact fun u M' H' t' E r => ⟨v, ⟨M', ρ', sB.σ, H'⟩, rfl, rfl, rfl, t', E, r, h⟩
  | exc c fs ρ' => exact h.elim
  | stuck => exact h.elim
/-- writing into a list that nobody holds yet -/
theorem er_put {s : Sg} (E : ER X.K X.mg s) {p : Addr} {xs ys : List V} (hp : s.H p = some (.lst xs)) (hm : s.M p) (ho : ¬ s.Own p) : ER X.K X.mg ⟨s.M, s.ρ, s.σ, upd s.H p (.lst ys)⟩ := by
  have ht : ∀ a xs, Rd s.H a (.tup xs) → Rd (upd s.H p (.lst ys)) a (.tup xs) := fun a zs h => by
    have ne : a ≠ p := fun z => by
      subst z
      rcases h with h | ⟨o', h⟩ <;> (rw [hp] at h; cases h)
    rcases h with h | ⟨o', h⟩
    · exact .inl (by rw [upd_ne ne]; exact h)
    · exact .inr ⟨o', by rw [upd_ne ne]; exact h⟩
  have hl : ∀ a xs, s.H a = some (.lst xs) → ¬ s.M a → (upd s.H p (.lst ys)) a = some (.lst xs) ∧ ¬ s.M a := fun a xs h n => ⟨(upd_ne (fun z => n (by rw [z]; exact hm))).trans h, n⟩
  refine ⟨E.len, fun i sv e => ?_, E.inj, fun b h => ?_⟩
  · obtain ⟨u, e2, r⟩ := E.slot i sv e
    refine ⟨u, e2, ?_⟩
    cases sv with
    | sh d => exact Rep.move ht hl d r
    | ow b ds =>
      obtain ⟨a, xs, e3, hh, hm, q⟩ := r
      refine ⟨a, xs, e3, (upd_ne (fun z => ho ?_)).trans hh, hm, Reps.move ht hl ds q⟩
      subst z; subst e3
      exact ⟨i, _, e, rfl, e2⟩
    | fn x => exact r
    | sc ns =>
      obtain ⟨a, e3, q⟩ := r
      refine ⟨a, e3, ?_⟩
      rcases q with ⟨ob, q⟩ | q
      · exact .inl ⟨ob, (upd_ne (fun z => by subst z; rw [hp] at q; cases q)).trans q⟩
      · exact .inr q
  · by_cases z : b = p
    · exact ⟨_, by rw [z]; exact upd_same⟩
    · obtain ⟨ob, e⟩ := E.live b h
      exact ⟨ob, (upd_ne z).trans e⟩
theorem tr_put {s s0 : Sg} (t : Tr s0 s) {p : Addr} (hp0 : s0.H p = none) {ys : List V} (h0 : ¬ s0.Own p) : Tr s0 ⟨s.M, s.ρ, s.σ, upd s.H p (.lst ys)⟩ where
  ext := fun b ob h hw => by
    have e := t.ext b ob h hw
    exact (upd_ne (fun z => by subst z; rw [hp0] at h; cases h)).trans e
  mt := fun b h => by
    obtain ⟨xs, e⟩ := t.mt b h
    exact ⟨xs, (upd_ne (fun z => h0 (by rw [← z]; exact h))).trans e⟩
  mnew := t.mnew
  mold := t.mold
  own := t.own
  lent := t.lent
  ln := t.ln
theorem reps_put {s : Sg} {p : Addr} {xs ys : List V} (hp : s.H p = some (.lst xs)) (hm : s.M p) {ds : List D} {zs : List V} (h : Reps X.K s.H s.M ds zs) : Reps X.K (upd s.H p (.lst ys)) s.M ds zs := by
  refine Reps.move (fun a xs h => ?_) (fun a xs h n => ?_) ds h
  · have ne : a ≠ p := fun z => by
      subst z
      rcases h with h | ⟨o', h⟩ <;> (rw [hp] at h; cases h)
    rcases h with h | ⟨o', h⟩
    · exact .inl (by rw [upd_ne ne]; exact h)
    · exact .inr ⟨o', by rw [upd_ne ne]; exact h⟩
  · exact ⟨(upd_ne (fun z => n (by rw [z]; exact hm))).trans h, n⟩
/-! ### list comprehensions -/
def wTs (X : Cx) (ifs : List Expr) (σ : L2.St) (H : Hp) (Q : Bool → Hp → Prop) : Prop := ∀ (pins : List (Addr × Obj)) (st : Shared), Inv X pins σ H st →
  wpAny (model X.prog X.w) X.A (forIn ifs true fun c r => if r = true then do let ok ← isTrue c X.env (eval c X.env); pure (ForInStep.yield ok) else pure (ForInStep.yield r)) (TP X pins σ Q) X.xe st
theorem pts_w (X : Cx) (ifs : List Expr) : PTs X ifs (wTs X ifs) := ⟨fun pins s σ H Q I h => h pins s I⟩
theorem _root_.L2.PTs.w {X : Cx} {ifs : List Expr} {t : TT} (h : PTs X ifs t) {σ : L2.St} {H : Hp} {Q : Bool → Hp → Prop} (q : t σ H Q) : wTs X ifs σ H Q := fun pins s I => h.run pins s σ H Q I q
theorem wTs.mono {X : Cx} {ifs : List Expr} {σ : L2.St} {H : Hp} {Q Q' : Bool → Hp → Prop} (h : wTs X ifs σ H Q) (q : ∀ v H', Q v H' → Q' v H') : wTs X ifs σ H Q' := fun pins s I =>
  thn (h pins s I) fun u s' ⟨H', I', z⟩ => ⟨H', I', q u H' z⟩
structure DTs (X : Cx) (W : WX) (ifs : List Expr) (f : Env → Out Bool) : Prop where
  run : ∀ s Q, ER X.K X.mg s → Goal X W RB s (f s.ρ) Q → wTs X ifs s.σ s.H Q
theorem dts_nil : DTs X W [] (fun ρ => .ok true ρ) := ⟨fun s Q E g => pts_nil.w (g.fin (s2 := s) rfl (Tr.refl E) E rfl)⟩
theorem dts_one {c : Expr} {f : Env → Out Bool} (h : DT X W c f) : DTs X W [c] f := ⟨fun s Q E g => (pts_one (pt_w c)).w (h.run s Q E g)⟩
def lcL (ok : Env → Bool) (g : D → Env → Option Env) (tt : Env → Out Bool) (fe : Env → Out EV) (vs : List Nat) : List D → List D → Env → Out (List D)
  | [], acc, ρ => if ok (wipeE ρ vs) = true then .ok acc ρ else .stuck
  | d :: ds, acc, ρ => if ok (wipeE ρ vs) = true then (match g d (wipeE ρ vs) with
    | some ρ1 => (noX (tt ρ1)).bind fun b ρ2 => if b = true then (noX ((fe ρ2).bind frz)).bind fun y ρ3 => lcL ok g tt fe vs ds (acc ++ [y]) ρ3 else lcL ok g tt fe vs ds acc ρ2
    | none => .stuck) else .stuck
def lcGo (g : D → Env → Option Env) (tt : Env → Out Bool) (fe : Env → Out EV) (vs : List Nat) (t : Its) (ρ1 : Env) : Out EV :=
  if noOwn (t.grab ρ1) vs = true ∧ t.ds.length ≤ sizeLine then (lcL t.ok g tt fe vs t.ds [] (t.grab ρ1)).bind fun acc ρ2 => .ok (.fr acc) (t.free (unwipe (t.grab ρ1) ρ2 vs)) else .stuck
def fLc (fi : Env → Out Its) (g : D → Env → Option Env) (tt : Env → Out Bool) (fe : Env → Out EV) (vs : List Nat) : Env → Out EV := fun ρ => (fi ρ).bind (lcGo g tt fe vs)
/-- X within a block -/
abbrev Blk (X : Cx) (scope : Scope) (st : Shared) (H : Hp) (C : Addr) (cl : List (Str × Addr)) (fp : List Addr) : Cx := X.blk st H scope (compEnvC scope cl C X.env) fp
theorem lc_read {elt tg iter : Expr} {ifs : List Expr} {scope : Scope} {vs : List Nat} {fi : Env → Out Its} {g : D → Env → Option Env} {tt : Env → Out Bool} {fe : Env → Out EV} {Q : VK}
    (hi : DI X W tg iter fi) (hg : ∀ st H C cl fp, DG (Blk X scope st H C cl fp) tg vs g) (ht : ∀ st H C cl fp, DTs (Blk X scope st H C cl fp) Wf ifs tt) (he : ∀ st H C cl fp, DE (Blk X scope st H C cl fp) Wf elt fe)
    (E : ER X.K X.mg s) (gg : Goal X W (RE X) s (fLc fi g tt fe vs s.ρ) Q) :
    tLc (wI X tg iter) (fun v σ H Q => ∀ st H0 C cl fp, wG (Blk X scope st H0 C cl fp) tg v σ H Q) (fun σ H Q => ∀ st H0 C cl fp, wTs (Blk X scope st H0 C cl fp) ifs σ H Q) (fun σ H Q => ∀ st H0 C cl fp, wE (Blk X scope st H0 C cl fp) elt σ H Q) vs s.σ s.H Q := by
  refine hi.run s _ E ((GoalK.bind0 E gg).mono fun J H1 ⟨tt0, s1', hσ', hH, _, t1', _, E1', ⟨hat, wk⟩, g1⟩ => ?_)
  subst hH
  obtain ⟨E1, t1⟩ := grab_ok E1' t1' hat
  unfold lcGo at g1
  revert E1 t1 wk g1
  generalize hs1 : (⟨s1'.M, tt0.grab s1'.ρ, s1'.σ, s1'.H⟩ : Sg) = s1
  have e0 : tt0.grab s1'.ρ = s1.ρ := by rw [← hs1]
  have e1 : s1'.H = s1.H := by rw [← hs1]
  have hσ : s1.σ = s.σ := by rw [← hs1]; exact hσ'
  rw [e0]
  intro wk g1 E1 t1
  generalize hit : tt0.ds = items at wk g1
  generalize hok : tt0.ok = ok at wk g1
  rw [e1]
  clear e1
  intro D0 hD0
  split at g1
  · rename_i hno
    obtain ⟨hno, hsz⟩ := hno
    have E1w := er_wipe E1 vs
    have hm1 : ∀ b, (s1.M b ∨ b = D0) → s1.M b ∨ b = D0 := fun b h => h
    have hm2 : ∀ b, s1.M b → (s1.M b ∨ b = D0) := fun b h => .inl h
    have Ex := er_upd (o := .lst []) E1w hD0 hm1 hm2
    have Tx := tr_upd (o := .lst []) E1w (Tr.refl E1w) hD0 hm1 hm2
    have nown0 : ¬ Sg.Own ⟨s1.M, wipeE s1.ρ vs, wipe s1.σ vs, s1.H⟩ D0 := not_own_new E1w hD0
    have nlent : ∀ (i : Nat) (sv : SV), i ∈ vs → (wipeE s1.ρ vs)[i]? = some (some sv) → sv.lent = true → False := fun i sv hi e _ => (wipeE_get.mp e).1 hi
    have t1w : ∀ {sB : Sg}, Tr ⟨s1.M, wipeE s1.ρ vs, wipe s1.σ vs, s1.H⟩ sB → Tr s1 ⟨sB.M, sB.ρ, sB.σ, sB.H⟩ → True := fun _ _ => trivial
    refine ⟨fun i m Hc => m = items.length - i ∧ i ≤ items.length ∧ ∃ (sB : Sg) (ρ : Env) (acc : List D) (xs : List V), sB.H = Hc ∧ sB.σ = wipe s1.σ vs ∧ sB.ρ = wipeE ρ vs ∧ Tr ⟨s1.M, wipeE s1.ρ vs, wipe s1.σ vs, s1.H⟩ sB ∧ ER X.K X.mg sB ∧
      Hc D0 = some (.lst xs) ∧ Reps X.K sB.H sB.M acc xs ∧ sB.M D0 ∧ ¬ sB.Own D0 ∧ acc.length ≤ i ∧ Goal X W (RE X) s ((lcL ok g tt fe vs (items.drop i) acc ρ).bind fun acc ρ2 => .ok (.fr acc) (tt0.free (unwipe s1.ρ ρ2 vs))) Q, ⟨items.length, rfl, Nat.zero_le _, ?_⟩, fun i m Hc ⟨hm, hle, sB, ρ, acc, xs, e1, e2, e3, tB, EB, hD, ra, mD, oD, hal, gB⟩ => ?_⟩
    · exact ⟨⟨fun b => s1.M b ∨ b = D0, wipeE s1.ρ vs, wipe s1.σ vs, upd s1.H D0 (.lst [])⟩, s1.ρ, [], [], rfl, rfl, rfl, Tx, Ex, upd_same, reps_nil, .inr rfl, fun w => nown0 w, Nat.zero_le _, g1⟩
    · subst e1
      have t1B : Tr s1 sB := (tr_wipe (s0 := s1) (vs := vs) (fun i sv hi e l => by
        have := noOwn_of hno hi e
        rw [SV.own_of_lent l] at this; cases this) (Tr.refl E1) (fun j hj => wipe_out hj)).trans tB
      by_cases hlt : i < items.length
      · have hd : items[i]? = some items[i] := List.getElem?_eq_getElem hlt
        rw [List.drop_eq_getElem_cons hlt] at gB
        simp only [lcL] at gB
        have hk0 : ok (wipeE ρ vs) = true := by
          split at gB
          · assumption
          · exact gB.elim
        rw [if_pos hk0] at gB
        have hk1 : ok sB.ρ = true := by rw [e3]; exact hk0
        split at gB
        · rename_i ρ3 e4
          refine .inr ⟨wk.go _ i _ t1B EB hk1 hd, fun H' => ∃ (s' : Sg) (ρ' : Env) (acc' : List D) (ys : List V), s'.H = H' ∧ s'.σ = wipe s1.σ vs ∧ s'.ρ = wipeE ρ' vs ∧ Tr ⟨s1.M, wipeE s1.ρ vs, wipe s1.σ vs, s1.H⟩ s' ∧ ER X.K X.mg s' ∧
            H' D0 = some (.lst ys) ∧ Reps X.K s'.H s'.M acc' ys ∧ s'.M D0 ∧ ¬ s'.Own D0 ∧ acc'.length ≤ i + 1 ∧ Goal X W (RE X) s ((lcL ok g tt fe vs (items.drop (i + 1)) acc' ρ').bind fun acc ρ2 => .ok (.fr acc) (tt0.free (unwipe s1.ρ ρ2 vs))) Q, fun H' h => ⟨items.length - (i + 1), by omega, rfl, by omega, h⟩, fun x H2 hy => ?_⟩
          intro st H0 C cl fp
          obtain ⟨M2, t2, E2, r2⟩ := wk.yld sB i _ x H2 t1B EB hk1 hd hy
          have keep : ∀ {s' : Sg}, Tr sB s' → s'.H D0 = some (.lst xs) ∧ s'.M D0 ∧ ¬ s'.Own D0 := fun {s'} t => ⟨t.ext _ _ hD oD, t.mold _ _ mD hD oD, fun w => by
            rcases t.own _ w with z | z
            · exact oD z
            · rw [hD] at z; cases z⟩
          rw [← hσ]
          rw [← e3] at e4
          have cast : ∀ {Q : L2.St → Hp → Prop}, wG (Blk X scope st H0 C cl fp) tg x sB.σ H2 Q → wG (Blk X scope st H0 C cl fp) tg x (wipe s1.σ vs) H2 Q := fun {Q} h => by rw [← e2]; exact h
          refine cast <| (hg st H0 C cl fp).run sB ⟨M2, sB.ρ, sB.σ, H2⟩ _ x ρ3 _ E2 t2 r2 e4 fun σ4 M4 H4 t4 E4 so => ?_
          have so : SameOut vs sB.σ σ4 := so
          have w4 : wipe σ4 vs = wipe s1.σ vs := by rw [wipe_same so, e2, wipe_idem]
          refine ⟨w4, fun st H0 C cl fp => ?_⟩
          -- what a turn leaves
          have leave : ∀ (s5 : Sg) (acc' : List D) (ys : List V), s5.σ = σ4 → Tr ⟨s1.M, wipeE s1.ρ vs, wipe s1.σ vs, s1.H⟩ s5 → ER X.K X.mg s5 → s5.H D0 = some (.lst ys) → Reps X.K s5.H s5.M acc' ys → s5.M D0 → ¬ s5.Own D0 → acc'.length ≤ i + 1 →
              Goal X W (RE X) s ((lcL ok g tt fe vs (items.drop (i + 1)) acc' s5.ρ).bind fun acc ρ2 => .ok (.fr acc) (tt0.free (unwipe s1.ρ ρ2 vs))) Q →
              ∃ (s' : Sg) (ρ' : Env) (acc' : List D) (ys : List V), s'.H = s5.H ∧ s'.σ = wipe s1.σ vs ∧ s'.ρ = wipeE ρ' vs ∧ Tr ⟨s1.M, wipeE s1.ρ vs, wipe s1.σ vs, s1.H⟩ s' ∧ ER X.K X.mg s' ∧
                s5.H D0 = some (.lst ys) ∧ Reps X.K s'.H s'.M acc' ys ∧ s'.M D0 ∧ ¬ s'.Own D0 ∧ acc'.length ≤ i + 1 ∧ Goal X W (RE X) s ((lcL ok g tt fe vs (items.drop (i + 1)) acc' ρ').bind fun acc ρ2 => .ok (.fr acc) (tt0.free (unwipe s1.ρ ρ2 vs))) Q := fun s5 acc' ys hs t5 E5 h1 h2 h3 h4 h5 h6 =>
            ⟨⟨s5.M, wipeE s5.ρ vs, wipe s5.σ vs, s5.H⟩, s5.ρ, acc', ys, rfl, by rw [hs]; exact w4, rfl, tr_wipe nlent t5 (fun j hj => wipe_out hj), er_wipe E5 vs, h1, h2, h3, fun w => h4 (own_wipe w), h5, h6⟩
          have gt : Goal X W (RE X) s ((noX (tt ρ3)).bind fun b ρ2 => (if b = true then (noX ((fe ρ2).bind frz)).bind fun y ρ3 => lcL ok g tt fe vs (items.drop (i + 1)) (acc ++ [y]) ρ3 else lcL ok g tt fe vs (items.drop (i + 1)) acc ρ2).bind fun acc ρ2 => .ok (.fr acc) (tt0.free (unwipe s1.ρ ρ2 vs))) Q := by
            rw [Out.bind_assoc] at gB
            exact gB
          refine ((ht st H0 C cl fp).run ⟨M4, ρ3, σ4, H4⟩ _ E4 (GoalK.block (R := RB) gt ⟨M4, ρ3, σ4, H4⟩)).mono fun b H5 ⟨b', s5, hσ5, hH5, _, t5, E5, rb, g5⟩ => ?_
          subst hH5
          have hb : b = b' := rb
          subst hb
          have t5' : Tr sB s5 := t4.trans t5
          obtain ⟨k1, k2, k3⟩ := keep t5'
          have ra5 : Reps X.K s5.H s5.M acc xs := Reps.tr EB t5' ra
          cases b with
          | false =>
            rw [if_neg Bool.false_ne_true] at g5 ⊢
            exact leave s5 acc xs hσ5 (tB.trans t5') E5 k1 ra5 k2 k3 (by omega) g5
          | true =>
            rw [if_pos rfl] at g5 ⊢
            intro st H0 C cl fp
            rw [Out.bind_assoc] at g5
            have hσ5 : s5.σ = σ4 := hσ5
            rw [← hσ5]
            refine ((he st H0 C cl fp).data.run s5 _ E5 (GoalK.block (R := RD (Blk X scope st H0 C cl fp)) g5 s5)).mono fun y H6 ⟨d, s6, hσ6, hH6, _, t6, E6, r6, g6⟩ => ?_
            subst hH6
            have t6' : Tr sB s6 := t5'.trans t6
            obtain ⟨k1, k2, k3⟩ := keep t6'
            have ra6 : Reps X.K s6.H s6.M acc xs := Reps.tr EB t6' ra
            refine ⟨xs, k1, by rw [ra6.length]; omega, ?_⟩
            have rp : Reps X.K (upd s6.H D0 (.lst (xs ++ [y]))) s6.M (acc ++ [d]) (xs ++ [y]) := reps_put k1 k2 (ra6.append (reps_cons r6 reps_nil))
            obtain ⟨s', ρ', acc', ys, q⟩ := leave ⟨s6.M, s6.ρ, s6.σ, upd s6.H D0 (.lst (xs ++ [y]))⟩ (acc ++ [d]) (xs ++ [y]) (hσ6.trans hσ5) (tr_put (tB.trans t6') hD0 nown0) (er_put E6 k1 k2 k3) upd_same rp k2 k3 (by simp; omega) g6
            exact ⟨s', ρ', acc', ys, q⟩
        · exact gB.elim
      · have e : i = items.length := by omega
        subst e
        rw [List.drop_length] at gB
        simp only [lcL] at gB
        have hk0 : ok (wipeE ρ vs) = true := by
          split at gB
          · assumption
          · exact gB.elim
        rw [if_pos hk0] at gB
        have hk1 : ok sB.ρ = true := by rw [e3]; exact hk0
        refine .inl ⟨wk.stop _ t1B EB hk1, ?_⟩
        obtain ⟨a1, a2, a3⟩ := er_unwipe E1 hno EB tB e3 e2
        obtain ⟨b1, b2, b3⟩ := free_ok (s2 := ⟨sB.M, unwipe s1.ρ ρ vs, s1.σ, sB.H⟩) a1 t1' (t1.trans a2) hat
        refine (show Goal X W (RE X) s (.ok (.fr acc) (tt0.free (unwipe s1.ρ ρ vs))) Q from gB).fin (s2 := ⟨sB.M, tt0.free (unwipe s1.ρ ρ vs), s1.σ, sB.H⟩) hσ b2 b1 ⟨⟨D0, xs, rfl, hD, mD, fun z => oD (a3 _ ((b3 _).mp z)), ra⟩, fun a ea => ?_⟩
        cases ea
        exact t1.none_back hD0
  · exact g1.elim
end
end DL
namespace DL
open PySem PySem.Spec PyProof.Rows L2

section
variable {X : Cx} {W : WX} {s s0 s1 : Sg}
theorem dc_blk (C : DC X W) (scope : Scope) (st : Shared) (H : Hp) (a : Addr) (cl : List (Str × Addr)) (fp : List Addr) : DC (Blk X scope st H a cl fp) Wf where
  calm := C.calm
  nd := C.nd
  tk := fun u s' ⟨_, _, _, _, _, _, _, _, _, _, _, _, _, _, _, _, w⟩ => w.elim
  po := PassesOwn.never
  gd := C.gd
  hd := C.hd
theorem de_lc {elt tg iter : Expr} {ifs : List Expr} {scope : Scope} {own : List (Str × Nat)} {fi : Env → Out Its} {g : D → Env → Option Env} {tt : Env → Out Bool} {fe : Env → Out EV} {pos : Pos} (C : DC X W) (ok : blkC X.N X.env.scope scope own = true)
    (hi : DI X W tg iter fi) (hg : ∀ st H a cl fp, DG (Blk X scope st H a cl fp) tg (own.map (·.2)) g) (ht : ∀ st H a cl fp, DTs (Blk X scope st H a cl fp) Wf ifs tt) (he : ∀ st H a cl fp, DE (Blk X scope st H a cl fp) Wf elt fe)
    (hs : ∀ x, foldedSetIterable iter X.env x = pure x := by intro _; rfl) : DE X W (.ListComp elt [⟨tg, iter, ifs, 0⟩] scope pos) (fLc fi g tt fe (own.map (·.2))) :=
  ⟨fun s Q E gg => (pe_lc C.calm C.nd (pi_w X tg iter) (blkOk_by ok) (g := fun v σ H Q => ∀ st H0 a cl fp, wG (Blk X scope st H0 a cl fp) tg v σ H Q) (tt := fun σ H Q => ∀ st H0 a cl fp, wTs (Blk X scope st H0 a cl fp) ifs σ H Q) (te := fun σ H Q => ∀ st H0 a cl fp, wE (Blk X scope st H0 a cl fp) elt σ H Q)
    (fun st H a cl fp => ⟨fun pins s σ H1 v u Q I r h => h st H a cl fp pins s u I r⟩) (fun st H a cl fp => ⟨fun pins s σ H1 Q I h => h st H a cl fp pins s I⟩) (fun st H a cl fp => ⟨fun pins s σ H1 Q I h => h st H a cl fp pins s I⟩) hs).w (lc_read hi hg ht he E gg)⟩
/-- name = [..] stored before the block goes -/
theorem ds_setLc {i : Nat} {y : Str} {py spos : Pos} {elt tg iter : Expr} {ifs : List Expr} {scope : Scope} {own : List (Str × Nat)} {fi : Env → Out Its} {g : D → Env → Option Env} {tt : Env → Out Bool} {fe : Env → Out EV} {pos : Pos} (C : DC X W) (ok : blkC X.N X.env.scope scope own = true)
    (hy : X.N[i]? = some y) (hyl : X.env.scope.names.lookup y = some .local) (hsw : swapsWith (.ListComp elt [⟨tg, iter, ifs, 0⟩] scope pos) (some (.Name y py)) spos.line X.env = pure true)
    (hi : DI X W tg iter fi) (hg : ∀ st H a cl fp, DG (Blk X scope st H a cl fp) tg (own.map (·.2)) g) (ht : ∀ st H a cl fp, DTs (Blk X scope st H a cl fp) Wf ifs tt) (he : ∀ st H a cl fp, DE (Blk X scope st H a cl fp) Wf elt fe)
    (hs : ∀ x, foldedSetIterable iter X.env x = pure x := by intro _; rfl) : DS X W (.Assign [.Name y py] (.ListComp elt [⟨tg, iter, ifs, 0⟩] scope pos) spos) (dSet i (fLc fi g tt fe (own.map (·.2)))) := by
  refine ⟨fun s D E gg => (ps_setLc C.calm C.nd hy hyl hsw (pi_w X tg iter) (blkOk_by ok) (g := fun v σ H Q => ∀ st H0 a cl fp, wG (Blk X scope st H0 a cl fp) tg v σ H Q) (tt := fun σ H Q => ∀ st H0 a cl fp, wTs (Blk X scope st H0 a cl fp) ifs σ H Q) (te := fun σ H Q => ∀ st H0 a cl fp, wE (Blk X scope st H0 a cl fp) elt σ H Q)
    (fun st H a cl fp => ⟨fun pins s σ H1 v u Q I r h => h st H a cl fp pins s u I r⟩) (fun st H a cl fp => ⟨fun pins s σ H1 Q I h => h st H a cl fp pins s I⟩) (fun st H a cl fp => ⟨fun pins s σ H1 Q I h => h st H a cl fp pins s I⟩) hs).w ?_⟩
  refine lc_read hi hg ht he E ((SGoal.bind0 E gg).mono fun u H2 ⟨v, s2, hσ, hH, _, t, _, E2, ⟨r, fr⟩, g2⟩ => ?_)
  subst hH
  show D.nx (s.σ.set i (some u)) s2.H
  rw [← hσ]
  exact sto_ok E2 t hσ r fr g2
end
end DL
namespace DL
open PySem PySem.Spec PyProof.Rows L2

/-! ### subscripts -/
def opIx : D → D → Env → Out EV
  | .list ds, .int i, ρ => (match atI ds i with | some d => .ok (.sh d) ρ | none => .stuck)
  | .tuple ds, .int i, ρ => (match atI ds i with | some d => .ok (.sh d) ρ | none => .stuck)
  | .str z, .int i, ρ => (match atI z.cps.toList i with | some c => .ok (.sh (sign c)) ρ | none => .stuck)
  | _, _, _ => .stuck
def rdI (va vb : EV) (ρ : Env) : Out EV := match rdS va ρ, rd vb ρ with
  | some da, some db => opIx da db ρ
  | _, _ => .stuck
def fIx (fa fb : Env → Out EV) : Env → Out EV := fun ρ => (fa ρ).bind fun va ρ1 => (fb ρ1).bind fun vb ρ2 => rdI va vb ρ2
def wX (X : Cx) (x y : V) (H : Hp) (Q : VK) : Prop := ∀ (value slice : Expr) (pins : List (Addr × Obj)) (st : Shared) (σ : L2.St) (v u : Value), Inv X pins σ H st → RelV x v → RelV y u →
  subscripted slice false v u = operate [v, u] (getItem v u) → wpAny (model X.prog X.w) X.A (subscriptTail value slice v u) (EP X pins σ Q) X.xe st
section
variable {X : Cx} {W : WX} {s s0 s1 : Sg}
theorem ixr_w : IxR X (wX X) := fun value slice pins s σ H x y v u Q I r1 r2 h hs => h value slice pins s σ v u I r1 r2 hs
theorem _root_.L2.IxR.w {r : R2} (h : IxR X r) {x y : V} {H : Hp} {Q : VK} (q : r x y H Q) : wX X x y H Q := fun value slice pins s σ v u I r1 r2 hs => h value slice pins s σ H x y v u Q I r1 r2 q hs
theorem reps_atI {K : PySem.W.Frag} {H : Hp} {M : Addr → Prop} {ds : List D} {xs : List V} {i : Int} {d : D} (r : Reps K H M ds xs) (h : atI ds i = some d) : ∃ x, atI xs i = some x ∧ Rep K H M d x := by
  unfold atI at h ⊢
  rw [r.length]
  cases e : ixN ds.length i with
  | none => rw [e] at h; cases h
  | some j =>
    rw [e] at h
    exact r.get h
theorem ix_core {va vb : EV} {u1 u2 : V} {Q : VK} (E : ER X.K X.mg s) (t : Tr s0 s) (hσ : s.σ = s0.σ) (r1 : EVR X.K X.mg s va u1) (r2 : EVR X.K X.mg s vb u2) (g : Goal X W (RE X) s0 (rdI va vb s.ρ) Q) : wX X u1 u2 s.H Q := by
  unfold rdI at g
  split at g
  · rename_i da db ea eb
    have q1 := rdS_ok E r1 ea
    have q2 := rd_ok E r2 eb
    unfold opIx at g
    split at g
    · rename_i ds i
      split at g
      · rename_i d hd
        obtain ⟨a, xs, rfl, hq, rr⟩ := q1
        have e := ofS_int q2.s
        subst e
        obtain ⟨x, hx, rx⟩ := reps_atI rr hd
        exact ix_list.w ⟨a, xs, i, x, rfl, rfl, hq, hx, g.flat E t hσ rx⟩
      · exact g.elim
    · rename_i ds i
      split at g
      · rename_i d hd
        have q1 : Rep X.K s.H s.M (.tuple ds) u1 := q1
        simp only [Rep] at q1
        obtain ⟨a, xs, rfl, hq, rr⟩ := q1
        have e := ofS_int q2.s
        subst e
        obtain ⟨x, hx, rx⟩ := reps_atI rr hd
        exact ix_tup.w ⟨a, xs, i, x, rfl, rfl, hq, hx, g.flat E t hσ rx⟩
      · exact g.elim
    · rename_i z i
      split at g
      · rename_i c hd
        obtain ⟨rfl, hz⟩ := ofS_str q1
        have e := ofS_int q2.s
        subst e
        exact ix_str.w ⟨z, i, c, rfl, rfl, hz, hd, g.flat E t hσ (rep_str sign_len)⟩
      · exact g.elim
    · exact g.elim
  · exact g.elim
theorem de_ix {a b : Expr} {fa fb : Env → Out EV} {pos : Pos} (ha : DE X W a fa) (hb : DE X W b fb) (hs : PlainIx b := by intro _ _; rfl) : DE X W (.Subscript a b pos) (fIx fa fb) := by
  refine ⟨fun s Q E g => (pe_ix ixr_w (pe_w a) (pe_w b) hs).w ?_⟩
  refine (ha.run s _ E (GoalK.bind0 E g)).mono fun u1 H1 ⟨v1, s1, hσ, hH, _, t1, _, E1, ⟨r1, fr1⟩, g1⟩ => ?_
  subst hH
  rw [← hσ]
  refine (hb.run s1 _ E1 (GoalK.bind t1 hσ g1)).mono fun u2 H2 ⟨v2, s2, hσ2, hH2, _, t2, t12, E2, ⟨r2, fr2⟩, g2⟩ => ?_
  subst hH2
  exact ix_core E2 t2 (hσ2.trans hσ) (EVR.tr E1 t12 hσ2 r1) r2 g2

/-! ### slices -/
def cutL {α : Type} (xs : List α) (lo hi : Option Int) : List α := (xs.drop (HT.sIx xs.length 0 lo)).take (HT.sIx xs.length xs.length hi - HT.sIx xs.length 0 lo)
def wP (X : Cx) (e : Option Expr) (σ : L2.St) (H : Hp) (Q : Option Int → Hp → Prop) : Prop := ∀ (pins : List (Addr × Obj)) (st : Shared), Inv X pins σ H st →
  wpAny (model X.prog X.w) X.A (evalPart e X.env) (fun u s' => ∃ o H', Inv X pins σ H' s' ∧ IsPart u o ∧ Q o H') X.xe st
theorem po_w (e : Option Expr) : PO X e (wP X e) := ⟨fun pins s σ H Q I h => h pins s I⟩
theorem _root_.L2.PO.w {e : Option Expr} {t : TO} (h : PO X e t) {σ : L2.St} {H : Hp} {Q : Option Int → Hp → Prop} (q : t σ H Q) : wP X e σ H Q := fun pins s I => h.run pins s σ H Q I q
theorem wP.mono {e : Option Expr} {σ : L2.St} {H : Hp} {Q Q' : Option Int → Hp → Prop} (h : wP X e σ H Q) (q : ∀ v H', Q v H' → Q' v H') : wP X e σ H Q' := fun pins s I =>
  thn (h pins s I) fun u s' ⟨o, H', I', p, z⟩ => ⟨o, H', I', p, q o H' z⟩
def RP (H0 : Hp) (s : Sg) (d : Option Int) (u : Option Int) : Prop := u = d
structure DP (X : Cx) (W : WX) (e : Option Expr) (f : Env → Out (Option Int)) : Prop where
  run : ∀ s Q, ER X.K X.mg s → Goal X W RP s (f s.ρ) Q → wP X e s.σ s.H Q
def fNo : Env → Out (Option Int) := fun ρ => .ok none ρ
def partV (v : EV) (ρ : Env) : Out (Option Int) := match v with
  | .sh (.int i) => .ok (some i) ρ
  | _ => .stuck
def fPart (f : Env → Out EV) : Env → Out (Option Int) := fun ρ => (f ρ).bind partV
theorem dp_none : DP X W none fNo := ⟨fun s Q E g => po_none.w (g.fin (s2 := s) rfl (Tr.refl E) E rfl)⟩
theorem dp_some {e : Expr} {f : Env → Out EV} (h : DE X W e f) : DP X W (some e) (fPart f) := by
  refine ⟨fun s Q E g => (po_some (pe_w e)).w ?_⟩
  refine (h.run s _ E (GoalK.bind0 E g)).mono fun u1 H1 ⟨v1, s1, hσ, hH, _, t1, _, E1, ⟨r1, fr1⟩, g1⟩ => ?_
  subst hH
  unfold partV at g1
  split at g1
  · have e := ofS_int (Rep.top (show Rep _ _ _ _ _ from r1)).s
    subst e
    exact ⟨_, rfl, g1.fin hσ t1 E1 rfl⟩
  · exact g1.elim
def opSl (d : D) (lo hi : Option Int) (ρ : Env) : Out EV := match d with
  | .list ds => .ok (.fr (cutL ds lo hi)) ρ
  | .tuple ds => .ok (.sh (.tuple (cutL ds lo hi))) ρ
  | .str z => .ok (.sh (.str (cutS z lo hi))) ρ
  | _ => .stuck
def rdSl (v : EV) (lo hi : Option Int) (ρ : Env) : Out EV := match rdS v ρ with
  | some d => opSl d lo hi ρ
  | none => .stuck
def fSl (fa : Env → Out EV) (fl fh : Env → Out (Option Int)) : Env → Out EV := fun ρ => (fa ρ).bind fun va ρ1 => (fl ρ1).bind fun l ρ2 => (fh ρ2).bind fun h ρ3 => rdSl va l h ρ3
def wSl (X : Cx) (x : V) (lo hi : Option Int) (H : Hp) (Q : VK) : Prop := ∀ (pins : List (Addr × Obj)) (st : Shared) (σ : L2.St) (v vl vu : Value) (sl : Addr), Inv X pins σ H st → RelV x v → st.heap.IsSliceOf sl vl vu .none → IsPart vl lo → IsPart vu hi →
  ∃ T id, typeLookup (.type T) "__getitem__" = pure (some (.builtin id)) ∧ st.TypeIs v T ∧ wpAny (model X.prog X.w) X.A (getItem v (.ref sl)) (EP X pins σ Q) X.xe st
theorem slr_w : SlR X (wSl X) := fun pins s σ H x v vl vu lo hi sl Q I r h1 h2 h3 h => h pins s σ v vl vu sl I r h1 h2 h3
theorem _root_.L2.SlR.w {r : V → Option Int → Option Int → Hp → VK → Prop} (h : SlR X r) {x : V} {lo hi : Option Int} {H : Hp} {Q : VK} (q : r x lo hi H Q) : wSl X x lo hi H Q := fun pins s σ v vl vu sl I r h1 h2 h3 => h pins s σ H x v vl vu lo hi sl Q I r h1 h2 h3 q
theorem reps_cut {K : PySem.W.Frag} {H : Hp} {M : Addr → Prop} {ds : List D} {xs : List V} (r : Reps K H M ds xs) (lo hi : Option Int) : Reps K H M (cutL ds lo hi) (cutV xs lo hi) := by
  unfold cutL cutV
  rw [r.length]
  exact (r.drop _).take _
theorem cut_whole {α : Type} {xs : List α} {lo hi : Option Int} (h : HT.sIx xs.length 0 lo = 0 ∧ HT.sIx xs.length xs.length hi = xs.length) : cutL xs lo hi = xs := by
  unfold cutL
  rw [h.1, h.2]
  simp
theorem sl_core {v : EV} {u : V} {lo hi : Option Int} {Q : VK} (E : ER X.K X.mg s) (t : Tr s0 s) (hσ : s.σ = s0.σ) (r : EVR X.K X.mg s v u) (g : Goal X W (RE X) s0 (rdSl v lo hi s.ρ) Q) : wSl X u lo hi s.H Q := by
  unfold rdSl at g
  split at g
  · rename_i d ed
    have q1 := rdS_ok E r ed
    unfold opSl at g
    split at g
    · rename_i ds
      obtain ⟨a, xs, rfl, hq, rr⟩ := q1
      exact sl_list.w ⟨a, xs, rfl, hq, GoalK.new_list E t hσ (reps_cut rr lo hi) g⟩
    · rename_i ds
      have q1 : Rep X.K s.H s.M (.tuple ds) u := q1
      have q1' := q1
      simp only [Rep] at q1
      obtain ⟨a, xs, rfl, hq, rr⟩ := q1
      refine sl_tupA.w ⟨a, xs, rfl, hq, fun hw => ?_, fun _ => GoalK.new_tup E t hσ (reps_cut rr lo hi) g⟩
      rw [rr.length] at hw
      rw [cut_whole hw] at g
      exact g.flat E t hσ q1'
    · rename_i z
      obtain ⟨rfl, hz⟩ := ofS_str q1
      exact sl_str.w ⟨z, rfl, hz, g.flat E t hσ (rep_str (Nat.le_trans (cutS_length z lo hi) hz))⟩
    · exact g.elim
  · exact g.elim
theorem de_sl {e : Expr} {lo hi : Option Expr} {fa : Env → Out EV} {fl fh : Env → Out (Option Int)} {p2 pos : Pos} (ha : DE X W e fa) (hl : DP X W lo fl) (hh : DP X W hi fh) : DE X W (.Subscript e (.Slice lo hi none p2) pos) (fSl fa fl fh) := by
  refine ⟨fun s Q E g => (pe_slice slr_w (pe_w e) (po_w lo) (po_w hi)).w ?_⟩
  refine (ha.run s _ E (GoalK.bind0 E g)).mono fun u1 H1 ⟨v1, s1, hσ, hH, _, t1, _, E1, ⟨r1, fr1⟩, g1⟩ => ?_
  subst hH
  rw [← hσ]
  refine (hl.run s1 _ E1 (GoalK.bind t1 hσ g1)).mono fun l H2 ⟨v2, s2, hσ2, hH2, _, t2, t12, E2, r2, g2⟩ => ?_
  subst hH2
  have r2 : l = v2 := r2
  subst r2
  rw [← hσ2]
  refine (hh.run s2 _ E2 (GoalK.bind t2 (hσ2.trans hσ) g2)).mono fun h H3 ⟨v3, s3, hσ3, hH3, _, t3, t23, E3, r3, g3⟩ => ?_
  subst hH3
  have r3 : h = v3 := r3
  subst r3
  exact sl_core E3 t3 (hσ3.trans (hσ2.trans hσ)) (EVR.tr E2 t23 hσ3 (EVR.tr E1 t12 hσ2 r1)) g3
/-! ### x[::-1] of a list -/
def revV (v : EV) (ρ : Env) : Out EV := match rdS v ρ with
  | some (.list ds) => .ok (.fr ds.reverse) ρ
  | _ => .stuck
def fRev (f : Env → Out EV) : Env → Out EV := fun ρ => (f ρ).bind revV
theorem de_revL {e : Expr} {f : Env → Out EV} {k : Nat} {p1 p2 p3 pos : Pos} (h : DE X W e f) : DE X W (.Subscript e (.Slice none none (some (.UnaryOp .USub (.Constant (.int 1) k p1) p2)) p3) pos) (fRev f) := by
  refine ⟨fun s Q E g => (pe_revL (pe_w e)).w ?_⟩
  refine (h.run s _ E (GoalK.bind0 E g)).mono fun u1 H1 ⟨v1, s1, hσ, hH, _, t1, _, E1, ⟨r1, fr1⟩, g1⟩ => ?_
  subst hH
  unfold revV at g1
  split at g1
  · rename_i ds ed
    obtain ⟨a, xs, rfl, hq, rr⟩ := rdS_ok E1 r1 ed
    exact ⟨a, xs, rfl, hq, GoalK.new_list E1 t1 hσ rr.reverse g1⟩
  · exact g1.elim

/-! ### displays -/
def fNilD : Env → Out (List D) := fun ρ => .ok [] ρ
def fConsD (f : Env → Out EV) (g : Env → Out (List D)) : Env → Out (List D) := fun ρ => ((f ρ).bind frz).bind fun v ρ1 => (g ρ1).bind fun vs ρ2 => .ok (v :: vs) ρ2
theorem dds_nil : DDs X W [] fNilD := ⟨fun s Q E g => pa_nil.w (show tNil s.σ s.H Q from g.fin (s2 := s) rfl (Tr.refl E) E reps_nil)⟩
theorem dds_cons {e : Expr} {es : List Expr} {f : Env → Out EV} {g : Env → Out (List D)} (h : DE X W e f) (ht : DDs X W es g) (hs : starEach (e :: es) X.env = (false, eval e X.env) :: starEach es X.env := by rfl) : DDs X W (e :: es) (fConsD f g) := by
  refine ⟨fun s Q E gg => (pa_cons (pe_w e) (pa_w es) hs).w ?_⟩
  refine (h.data.run s _ E (GoalK.bind0 E gg)).mono fun u1 H1 ⟨v1, s1, hσ, hH, _, t1, _, E1, r1, g1⟩ => ?_
  subst hH
  rw [← hσ]
  refine (ht.run s1 _ E1 (GoalK.bind t1 hσ g1)).mono fun u2 H2 ⟨v2, s2, hσ2, hH2, _, t2, t12, E2, r2, g2⟩ => ?_
  subst hH2
  exact g2.fin (hσ2.trans hσ) t2 E2 (reps_cons (Rep.tr E1 t12 r1) r2)
def lstV (ds : List D) (ρ : Env) : Out EV := if ds.length ≤ sizeLine then .ok (.fr ds) ρ else .stuck
def tupV (ds : List D) (ρ : Env) : Out EV := if ds.length ≤ sizeLine then .ok (.sh (.tuple ds)) ρ else .stuck
def fLst (f : Env → Out (List D)) : Env → Out EV := fun ρ => (f ρ).bind lstV
def fTup (f : Env → Out (List D)) : Env → Out EV := fun ρ => (f ρ).bind tupV
theorem de_lst {es : List Expr} {f : Env → Out (List D)} {pos : Pos} (h : DDs X W es f) : DE X W (.List es pos) (fLst f) := by
  refine ⟨fun s Q E g => (pe_lst (pa_w es)).w ?_⟩
  refine (h.run s _ E (GoalK.bind0 E g)).mono fun xs H1 ⟨ds, s1, hσ, hH, _, t1, _, E1, r1, g1⟩ => ?_
  subst hH
  have r1 : Reps X.K s1.H s1.M ds xs := r1
  unfold lstV at g1
  split at g1
  · rename_i hl
    exact ⟨by rw [r1.length]; exact hl, GoalK.new_list E1 t1 hσ r1 g1⟩
  · exact g1.elim
theorem de_tup {es : List Expr} {x1} {f : Env → Out (List D)} {pos : Pos} (h : DDs X W es f) : DE X W (.Tuple es x1 pos) (fTup f) := by
  refine ⟨fun s Q E g => (pe_tup (pa_w es)).w ?_⟩
  refine (h.run s _ E (GoalK.bind0 E g)).mono fun xs H1 ⟨ds, s1, hσ, hH, _, t1, _, E1, r1, g1⟩ => ?_
  subst hH
  have r1 : Reps X.K s1.H s1.M ds xs := r1
  unfold tupV at g1
  split at g1
  · rename_i hl
    exact ⟨by rw [r1.length]; exact hl, GoalK.new_tup E1 t1 hσ r1 g1⟩
  · exact g1.elim
end
end DL
namespace DL
open PySem PySem.Spec PyProof.Rows L2

/-! ### calls of what is built in -/
def rdSs : List EV → Env → Option (List D)
  | [], _ => some []
  | v :: vs, ρ => match rdS v ρ, rdSs vs ρ with
    | some d, some ds => some (d :: ds)
    | _, _ => none
def wC (X : Cx) (f : Value) (us : List V) (H : Hp) (Q : VK) : Prop := ∀ (pins : List (Addr × Obj)) (st : Shared) (σ : L2.St) (vs : List Value), Inv X pins σ H st → Vals us vs → wpAny (model X.prog X.w) X.A (call f vs) (EP X pins σ Q) X.xe st
theorem cr_w {X : Cx} {f : Value} : CallR X f (wC X f) := fun pins s σ H xs us Q I r h => h pins s σ us I r
theorem _root_.L2.CallR.w {X : Cx} {f : Value} {r : List V → Hp → VK → Prop} (h : CallR X f r) {us : List V} {H : Hp} {Q : VK} (q : r us H Q) : wC X f us H Q := fun pins s σ vs I r => h pins s σ H us vs Q I r q
structure DF1 (X : Cx) (W : WX) (f : Value) (op : List D → Env → Out EV) : Prop where
  run : ∀ (s0 s : Sg) (ds : List D) (us : List V) (Q : VK), ER X.K X.mg s → Tr s0 s → s.σ = s0.σ → Paired (fun d u => RepS X.K s.H s.M d u) ds us → Goal X W (RE X) s0 (op ds s.ρ) Q → wC X f us s.H Q
def rdC (op : List D → Env → Out EV) (vs : List EV) (ρ : Env) : Out EV := match rdSs vs ρ with
  | some ds => op ds ρ
  | none => .stuck
def fCB (op : List D → Env → Out EV) (fa : Env → Out (List EV)) : Env → Out EV := fun ρ => (fa ρ).bind (rdC op)
section
variable {X : Cx} {W : WX} {s s0 s1 : Sg}
theorem rdSs_ok (E : ER X.K X.mg s) : ∀ {vs : List EV} {us : List V} {ds : List D}, Paired (fun v u => EVR X.K X.mg s v u) vs us → rdSs vs s.ρ = some ds → Paired (fun d u => RepS X.K s.H s.M d u) ds us
  | _, _, ds, .nil, h => by
    simp [rdSs] at h; subst h; exact .nil
  | _, _, ds, .cons (a := v) r rr, h => by
    simp only [rdSs] at h
    split at h
    · rename_i d ds' e1 e2
      cases h
      exact .cons (rdS_ok E r e1) (rdSs_ok E rr e2)
    · cases h
theorem cb_core {f : Value} {op : List D → Env → Out EV} (ho : DF1 X W f op) {es : List Expr} {fa : Env → Out (List EV)} (ha : DEs X W es fa) {Q : VK} (E : ER X.K X.mg s) (g : Goal X W (RE X) s (fCB op fa s.ρ) Q) : wA X es s.σ s.H (fun us H2 => wC X f us H2 Q) := by
  refine (ha.run s _ E (GoalK.bind0 E g)).mono fun us H2 ⟨vs, s2, hσ, hH, _, t, _, E2, r, g2⟩ => ?_
  subst hH
  unfold rdC at g2
  split at g2
  · rename_i ds e
    exact ho.run s s2 ds us Q E2 t hσ (rdSs_ok E2 r e) g2
  · exact g2.elim
theorem de_cb {id : String} {x : Str} {e : Expr} {es : List Expr} {p pos : Pos} {op : List D → Env → Out EV} {fa : Env → Out (List EV)} (ho : DF1 X W (.builtin id) op) (ha : DEs X W (e :: es) fa) (hg : Gl X x) (hm : X.mg x = none) (hv : bootBuiltins x = some (.builtin id)) (hn : x ≠ "__name__" := by decide) (hdb : (x == ("__debug__" : Str)) = false := by decide)
    (he : starEach (e :: es) X.env = (false, eval e X.env) :: starEach es X.env := by rfl) (hpl : (backTo pos (starEach es X.env)).any (·.1) = false := by rfl) : DE X W (.Call (.Name x p) (e :: es) [] pos) (fCB op fa) :=
  ⟨fun s Q E g => (pe_callB cr_w hg hm hv (pa_w _) hn hdb he hpl).w (cb_core ho ha E g)⟩
theorem de_cty {T : String} {x : Str} {e : Expr} {es : List Expr} {p pos : Pos} {op : List D → Env → Out EV} {fa : Env → Out (List EV)} (ho : DF1 X W (.type T) op) (ha : DEs X W (e :: es) fa) (hg : Gl X x) (hm : X.mg x = none) (hv : bootBuiltins x = some (.type T)) (hn : x ≠ "__name__" := by decide) (hdb : (x == ("__debug__" : Str)) = false := by decide)
    (he : starEach (e :: es) X.env = (false, eval e X.env) :: starEach es X.env := by rfl) (hpl : (backTo pos (starEach es X.env)).any (·.1) = false := by rfl) : DE X W (.Call (.Name x p) (e :: es) [] pos) (fCB op fa) :=
  ⟨fun s Q E g => (pe_callTy cr_w hg hm hv (pa_w _) hn hdb he hpl).w (cb_core ho ha E g)⟩
theorem pair1 {α β : Type} {R : α → β → Prop} {a : α} {us : List β} (h : Paired R [a] us) : ∃ u, us = [u] ∧ R a u := by
  cases h with
  | cons r t => cases t; exact ⟨_, rfl, r⟩
theorem pair2 {α β : Type} {R : α → β → Prop} {a b : α} {us : List β} (h : Paired R [a, b] us) : ∃ u v, us = [u, v] ∧ R a u ∧ R b v := by
  cases h with
  | cons r t => obtain ⟨v, rfl, r2⟩ := pair1 t; exact ⟨_, _, rfl, r, r2⟩

/-! len, list, tuple, abs, int, max, min, str -/
def opLen : List D → Env → Out EV
  | [.list ds], ρ => .ok (.sh (.int ds.length)) ρ
  | [.tuple ds], ρ => .ok (.sh (.int ds.length)) ρ
  | [.str x], ρ => .ok (.sh (.int x.length)) ρ
  | _, _ => .stuck
theorem df_len : DF1 X W (.builtin "len") opLen := by
  refine ⟨fun s0 s ds us Q E t hσ r g => ?_⟩
  unfold opLen at g
  split at g
  · obtain ⟨u, rfl, r1⟩ := pair1 r
    obtain ⟨a, xs, rfl, hq, rr⟩ := ofS_list r1
    refine call_len_seq.w ⟨a, xs, rfl, .inl hq, ?_⟩
    rw [rr.length]
    exact g.flat E t hσ rep_int
  · obtain ⟨u, rfl, r1⟩ := pair1 r
    obtain ⟨a, xs, rfl, hq, rr⟩ := ofS_tup r1
    refine call_len_seq.w ⟨a, xs, rfl, .inr hq, ?_⟩
    rw [rr.length]
    exact g.flat E t hσ rep_int
  · obtain ⟨u, rfl, r1⟩ := pair1 r
    obtain ⟨rfl, hz⟩ := ofS_str r1
    exact call_len_str.w ⟨_, rfl, hz, g.flat E t hσ rep_int⟩
  · exact g.elim
theorem reps_signs {K : PySem.W.Frag} {H : Hp} {M : Addr → Prop} : ∀ cs : List Nat, Reps K H M (cs.map sign) (cs.map fun c => V.str ⟨#[c]⟩)
  | [] => reps_nil
  | c :: cs => reps_cons (rep_str sign_len) (reps_signs cs)
def opList : List D → Env → Out EV
  | [.list ds], ρ => .ok (.fr ds) ρ
  | [.tuple ds], ρ => .ok (.fr ds) ρ
  | [.str x], ρ => .ok (.fr (x.cps.toList.map sign)) ρ
  | _, _ => .stuck
theorem cr_listStr (hc : X.calm = true) : CallR X (.type "list") (fun xs H Q => ∃ z, xs = [.str z] ∧ z.length ≤ sizeLine ∧ ∀ l, H l = none → Q (.ref l) (upd H l (.lst (z.cps.toList.map fun c => V.str ⟨#[c]⟩)))) := by
  intro pins s σ H xs us Q I r h
  obtain ⟨z, rfl, hz, q⟩ := h
  obtain ⟨u, rfl, tk, rfl⟩ := vals1 r
  refine PySem.call_list_str (I.ok.hd hc) z tk (fun h' tk' acc' c' hk e hi => ?_) hz
  have hl : acc'.toList.length = z.cps.toList.length := by rw [Array.length_toList, Array.length_toList]; exact hi.1
  refine ⟨.ref s.heap.objs.size, upd H s.heap.objs.size (.lst (z.cps.toList.map fun c => V.str ⟨#[c]⟩)), I.laid hk (Nat.le_refl _) (show ObjOk X.prog X.w _ _ _ (.lst _) from ⟨?_, acc'.toList, c', ?_, ?_⟩), rfl, q _ (I.hok.fresh (Nat.le_refl _))⟩
  · rw [List.length_map]; show z.cps.toList.length ≤ sizeLine; rw [Array.length_toList]; exact hz
  · refine vals_of_at (by rw [List.length_map, hl]) fun j x u h1 h2 => ?_
    rw [List.getElem?_map] at h1
    rw [Array.getElem?_toList] at h2
    obtain ⟨c, t, hc1, rfl⟩ := hi.2 j u h2
    rw [Array.getElem?_toList, hc1] at h1
    cases h1
    exact ⟨t, rfl⟩
  · rw [Array.toArray_toList]; exact e
theorem df_list (hc : X.calm = true) : DF1 X W (.type "list") opList := by
  refine ⟨fun s0 s ds us Q E t hσ r g => ?_⟩
  unfold opList at g
  split at g
  · obtain ⟨u, rfl, r1⟩ := pair1 r
    obtain ⟨a, xs, rfl, hq, rr⟩ := ofS_list r1
    exact call_list_of.w ⟨a, xs, rfl, .inl hq, GoalK.new_list E t hσ rr g⟩
  · obtain ⟨u, rfl, r1⟩ := pair1 r
    obtain ⟨a, xs, rfl, hq, rr⟩ := ofS_tup r1
    exact call_list_of.w ⟨a, xs, rfl, .inr hq, GoalK.new_list E t hσ rr g⟩
  · obtain ⟨u, rfl, r1⟩ := pair1 r
    obtain ⟨rfl, hz⟩ := ofS_str r1
    exact (cr_listStr hc).w ⟨_, rfl, hz, GoalK.new_list E t hσ (reps_signs _) g⟩
  · exact g.elim
def opTuple : List D → Env → Out EV
  | [.list ds], ρ => .ok (.sh (.tuple ds)) ρ
  | [.tuple ds], ρ => .ok (.sh (.tuple ds)) ρ
  | _, _ => .stuck
theorem df_tuple : DF1 X W (.type "tuple") opTuple := by
  refine ⟨fun s0 s ds us Q E t hσ r g => ?_⟩
  unfold opTuple at g
  split at g
  · obtain ⟨u, rfl, r1⟩ := pair1 r
    obtain ⟨a, xs, rfl, hq, rr⟩ := ofS_list r1
    exact call_tuple_of.w ⟨a, xs, rfl, .inl ⟨hq, GoalK.new_tup E t hσ rr g⟩⟩
  · obtain ⟨u, rfl, r1⟩ := pair1 r
    have r' := r1
    obtain ⟨a, xs, rfl, hq, rr⟩ := ofS_tup r1
    exact call_tuple_of.w ⟨a, xs, rfl, .inr ⟨hq, g.flat E t hσ r'⟩⟩
  · exact g.elim
def opAbs : List D → Env → Out EV
  | [.int i], ρ => .ok (.sh (.int (if i < 0 then -i else i))) ρ
  | _, _ => .stuck
theorem df_abs : DF1 X W (.builtin "abs") opAbs := by
  refine ⟨fun s0 s ds us Q E t hσ r g => ?_⟩
  unfold opAbs at g
  split at g
  · obtain ⟨u, rfl, r1⟩ := pair1 r
    have e := ofS_int r1; subst e
    exact call_abs.w ⟨_, rfl, g.flat E t hσ rep_int⟩
  · exact g.elim
theorem cr_intInt : CallR X (.type "int") (fun xs H Q => ∃ i, xs = [.int i] ∧ Q (.int i) H) := by
  intro pins s σ H xs us Q I r h
  obtain ⟨i, rfl, q⟩ := h
  obtain ⟨u, rfl, t, rfl⟩ := vals1 r
  exact PySem.call_int_int ⟨.int i, H, I, ⟨t, rfl⟩, q⟩
def opInt : List D → Env → Out EV
  | [.int i], ρ => .ok (.sh (.int i)) ρ
  | [.str x], ρ => (match PySem.intText? x with
    | some n => if x.length ≤ 640 then .ok (.sh (.int n)) ρ else .stuck
    | none => .stuck)
  | _, _ => .stuck
theorem df_int : DF1 X W (.type "int") opInt := by
  refine ⟨fun s0 s ds us Q E t hσ r g => ?_⟩
  unfold opInt at g
  split at g
  · obtain ⟨u, rfl, r1⟩ := pair1 r
    have e := ofS_int r1; subst e
    exact cr_intInt.w ⟨_, rfl, g.flat E t hσ rep_int⟩
  · obtain ⟨u, rfl, r1⟩ := pair1 r
    obtain ⟨rfl, hz⟩ := ofS_str r1
    split at g
    · rename_i n hn
      split at g
      · rename_i hl
        exact call_int_str.w ⟨_, n, rfl, hn, hl, g.flat E t hσ rep_int⟩
      · exact g.elim
    · exact g.elim
  · exact g.elim
def opMax2 : List D → Env → Out EV
  | [.int i, .int j], ρ => .ok (.sh (.int (if j > i then j else i))) ρ
  | _, _ => .stuck
def opMin2 : List D → Env → Out EV
  | [.int i, .int j], ρ => .ok (.sh (.int (if j < i then j else i))) ρ
  | _, _ => .stuck
theorem df_max2 (hc : X.calm = true) : DF1 X W (.builtin "max") opMax2 := by
  refine ⟨fun s0 s ds us Q E t hσ r g => ?_⟩
  unfold opMax2 at g
  split at g
  · obtain ⟨u, v, rfl, r1, r2⟩ := pair2 r
    have e := ofS_int r1; subst e
    have e := ofS_int r2; subst e
    exact (call_max2 hc).w ⟨_, _, rfl, g.flat E t hσ rep_int⟩
  · exact g.elim
theorem df_min2 (hc : X.calm = true) : DF1 X W (.builtin "min") opMin2 := by
  refine ⟨fun s0 s ds us Q E t hσ r g => ?_⟩
  unfold opMin2 at g
  split at g
  · obtain ⟨u, v, rfl, r1, r2⟩ := pair2 r
    have e := ofS_int r1; subst e
    have e := ofS_int r2; subst e
    exact (call_min2 hc).w ⟨_, _, rfl, g.flat E t hσ rep_int⟩
  · exact g.elim
/-- small enough for str and repr -/
def digOk (i : Int) : Bool := decide (i.natAbs.log2 < 1920)
theorem dig_len {i : Int} (h : i.natAbs.log2 < 1920) : (Str.ofString (toString i)).length ≤ sizeLine := PySem.int_text_fits h
def opStr : List D → Env → Out EV
  | [.int i], ρ => if digOk i = true then .ok (.sh (.str (Str.ofString (toString i)))) ρ else .stuck
  | [.str x], ρ => .ok (.sh (.str x)) ρ
  | _, _ => .stuck
theorem df_str : DF1 X W (.type "str") opStr := by
  refine ⟨fun s0 s ds us Q E t hσ r g => ?_⟩
  unfold opStr at g
  split at g
  · split at g
    · rename_i hd
      have hd := of_decide_eq_true hd
      obtain ⟨u, rfl, r1⟩ := pair1 r
      have e := ofS_int r1; subst e
      exact call_str_int.w ⟨_, rfl, hd, g.flat E t hσ (rep_str (dig_len hd))⟩
    · exact g.elim
  · obtain ⟨u, rfl, r1⟩ := pair1 r
    obtain ⟨rfl, hz⟩ := ofS_str r1
    exact SkE.call_str_str.w ⟨_, rfl, g.flat E t hσ (rep_str hz)⟩
  · exact g.elim
end
end DL
namespace DL
open PySem PySem.Spec PyProof.Rows L2

section
variable {X : Cx} {W : WX} {s s0 s1 : Sg}
/-! divmod, repr -/
def opDivmod : List D → Env → Out EV
  | [.int i, .int j], ρ => if 0 < j ∧ Builtin.divisionGoesByPylong i j = false then .ok (.sh (.tuple [.int (i / j), .int (i % j)])) ρ else .stuck
  | _, _ => .stuck
theorem df_divmod : DF1 X W (.builtin "divmod") opDivmod := by
  refine ⟨fun s0 s ds us Q E t hσ r g => ?_⟩
  unfold opDivmod at g
  split at g
  · split at g
    · rename_i h
      obtain ⟨u, v, rfl, r1, r2⟩ := pair2 r
      have e := ofS_int r1; subst e
      have e := ofS_int r2; subst e
      exact call_divmodW.w ⟨_, _, rfl, h, GoalK.new_tup E t hσ (reps_cons rep_int (reps_cons rep_int reps_nil)) g⟩
    · exact g.elim
  · exact g.elim
mutual
theorem rep_nodict {K : PySem.W.Frag} {H : Hp} {M : Addr → Prop} : ∀ (d : D) {v : V}, Rep K H M d v → d.hasDict = false
  | .none, _, _ => rfl
  | .bool _, _, _ => rfl
  | .int _, _, _ => rfl
  | .str _, _, _ => rfl
  | .tuple ds, v, h => by
    simp only [Rep] at h; obtain ⟨a, xs, _, _, q⟩ := h
    simp only [PyData.hasDict]; exact reps_nodict ds q
  | .list ds, v, h => by
    simp only [Rep] at h; obtain ⟨a, xs, _, _, _, q⟩ := h
    simp only [PyData.hasDict]; exact reps_nodict ds q
  | .dict _, v, h => by simp only [Rep] at h
theorem reps_nodict {K : PySem.W.Frag} {H : Hp} {M : Addr → Prop} : ∀ (ds : List D) {v : List V}, Reps K H M ds v → PyData.hasDictAll ds = false
  | [], _, _ => rfl
  | d :: ds, v, h => by
    obtain ⟨x, xr, e, hx, t⟩ := reps_inv h
    simp only [PyData.hasDictAll, rep_nodict d hx, reps_nodict ds t, Bool.or_self]
end
theorem repS_nodict {K : PySem.W.Frag} {H : Hp} {M : Addr → Prop} {d : D} {v : V} (h : RepS K H M d v) : d.hasDict = false := by
  cases d with
  | list ds =>
    obtain ⟨a, xs, _, _, q⟩ := h
    simp only [PyData.hasDict]; exact reps_nodict ds q
  | _ => exact rep_nodict (K := K) (H := H) (M := M) (v := v) _ h
def repOk (d : D) : Bool := d.showable && decide (d.shown.length ≤ sizeLine) && decide (d.depth ≤ 60)
def opRepr : List D → Env → Out EV
  | [d], ρ => if repOk d = true then .ok (.sh (.str d.shown)) ρ else .stuck
  | _, _ => .stuck
theorem repr_raw {prog : Program} {w : World} {A : Around} {E : Value → Shared → Prop} {st : Shared} {Q : Value → Shared → Prop} {d : D} {u : Value} {as : List Addr} (r : Reads st.heap u d as) (hd : d.hasDict = false) (hs : d.showable = true) (hz : d.shown.length ≤ sizeLine) (hp : d.depth ≤ 60) (hg : A.guards = some []) (hu : A.units + 100 < cLine)
    (hQ : ∀ h' t tk, (∀ b o, st.heap.get? b = some o → h'.get? b = some o) → Q (.str d.shown t) { st with heap := h', toks := tk }) : wpAny (model prog w) A (call (.builtin "repr") [u]) Q E st := by
  have fin : ∀ (t tk : Tok), Q (.str d.shown t) { st with toks := tk } := fun t tk => hQ st.heap t tk fun _ _ e => e
  cases r with
  | none => exact PySem.P.repr_of_none (fin _ _)
  | bool b => exact PySem.P.repr_of_bool (fin _ _)
  | int i t => exact PySem.P.repr_of_int (by simpa [PyData.showable] using hs) (fin _ _)
  | str x t => exact PySem.P.repr_of_str (fin _ _) hz
  | tuple e1 e2 e3 ra => exact PySem.repr_of_reads' (.tuple e1 e2 e3 ra) hs (PyData.noDict_hsm hd) hg (by omega) (fun _ _ e => e) hQ hz
  | list e1 e2 e3 ra => exact PySem.repr_of_reads' (.list e1 e2 e3 ra) hs (PyData.noDict_hsm hd) hg (by omega) (fun _ _ e => e) hQ hz
  | dict => simp [PyData.hasDict] at hd
theorem df_repr (hg : X.A.guards = some []) (hu : Cu X) : DF1 X W (.builtin "repr") opRepr := by
  refine ⟨fun s0 s ds us Q E t hσ r g => ?_⟩
  unfold opRepr at g
  split at g
  · rename_i d
    split at g
    · rename_i hk
      unfold repOk at hk
      simp only [Bool.and_eq_true, decide_eq_true_eq] at hk
      obtain ⟨u, rfl, r1⟩ := pair1 r
      have q := g.flat E t hσ (rep_str hk.1.2)
      intro pins st σ vs I rv
      obtain ⟨u', rfl, ru⟩ := vals1 rv
      obtain ⟨as, k⟩ := repS_reads I r1 ru
      exact repr_raw k (repS_nodict r1) hk.1.1 hk.1.2 hk.2 hg hu fun h' tt tk kk => ⟨.str _, s.H, I.kept kk, ⟨_, rfl⟩, q⟩
    · exact g.elim
  · exact g.elim
end
end DL
namespace DL
open PySem PySem.Spec PyProof.Rows L2

def intsOf : List D → Option (List Int)
  | [] => some []
  | .int i :: ds => (intsOf ds).map (i :: ·)
  | _ => none
def boolsOf : List D → Option (List Bool)
  | [] => some []
  | .bool i :: ds => (boolsOf ds).map (i :: ·)
  | _ => none
def strsOf : List D → Option (List Str)
  | [] => some []
  | .str i :: ds => (strsOf ds).map (i :: ·)
  | _ => none
theorem intsOf_eq : ∀ {ds : List D} {ns : List Int}, intsOf ds = some ns → ds = ns.map .int
  | [], ns, h => by simp [intsOf] at h; subst h; rfl
  | .int i :: ds, ns, h => by
    simp only [intsOf, Option.map_eq_some_iff] at h
    obtain ⟨ms, e, rfl⟩ := h
    rw [intsOf_eq e]; rfl
  | .none :: _, _, h => by simp [intsOf] at h
  | .bool _ :: _, _, h => by simp [intsOf] at h
  | .str _ :: _, _, h => by simp [intsOf] at h
  | .list _ :: _, _, h => by simp [intsOf] at h
  | .tuple _ :: _, _, h => by simp [intsOf] at h
  | .dict _ :: _, _, h => by simp [intsOf] at h
theorem boolsOf_eq : ∀ {ds : List D} {ns : List Bool}, boolsOf ds = some ns → ds = ns.map .bool
  | [], ns, h => by simp [boolsOf] at h; subst h; rfl
  | .bool i :: ds, ns, h => by
    simp only [boolsOf, Option.map_eq_some_iff] at h
    obtain ⟨ms, e, rfl⟩ := h
    rw [boolsOf_eq e]; rfl
  | .none :: _, _, h => by simp [boolsOf] at h
  | .int _ :: _, _, h => by simp [boolsOf] at h
  | .str _ :: _, _, h => by simp [boolsOf] at h
  | .list _ :: _, _, h => by simp [boolsOf] at h
  | .tuple _ :: _, _, h => by simp [boolsOf] at h
  | .dict _ :: _, _, h => by simp [boolsOf] at h
theorem strsOf_eq : ∀ {ds : List D} {ns : List Str}, strsOf ds = some ns → ds = ns.map .str
  | [], ns, h => by simp [strsOf] at h; subst h; rfl
  | .str i :: ds, ns, h => by
    simp only [strsOf, Option.map_eq_some_iff] at h
    obtain ⟨ms, e, rfl⟩ := h
    rw [strsOf_eq e]; rfl
  | .none :: _, _, h => by simp [strsOf] at h
  | .int _ :: _, _, h => by simp [strsOf] at h
  | .bool _ :: _, _, h => by simp [strsOf] at h
  | .list _ :: _, _, h => by simp [strsOf] at h
  | .tuple _ :: _, _, h => by simp [strsOf] at h
  | .dict _ :: _, _, h => by simp [strsOf] at h
section
variable {K : PySem.W.Frag} {H : Hp} {M : Addr → Prop}
theorem reps_ints_inv : ∀ {ns : List Int} {xs : List V}, Reps K H M (ns.map .int) xs → xs = ns.map V.int
  | [], xs, h => reps_nil_inv h
  | n :: ns, xs, h => by
    obtain ⟨x, r, rfl, hx, t⟩ := reps_inv h
    rw [reps_ints_inv t]
    simp only [Rep] at hx; rw [hx]; rfl
theorem reps_bools_inv : ∀ {ns : List Bool} {xs : List V}, Reps K H M (ns.map .bool) xs → xs = ns.map V.bl
  | [], xs, h => reps_nil_inv h
  | n :: ns, xs, h => by
    obtain ⟨x, r, rfl, hx, t⟩ := reps_inv h
    rw [reps_bools_inv t]
    simp only [Rep] at hx; rw [hx]; rfl
theorem reps_strs_inv : ∀ {ns : List Str} {xs : List V}, Reps K H M (ns.map .str) xs → xs = ns.map V.str ∧ ∀ x ∈ ns, x.length ≤ sizeLine
  | [], xs, h => ⟨reps_nil_inv h, by simp⟩
  | n :: ns, xs, h => by
    obtain ⟨x, r, rfl, hx, t⟩ := reps_inv h
    obtain ⟨e, q⟩ := reps_strs_inv t
    rw [e]
    simp only [Rep] at hx; rw [hx.1]
    exact ⟨rfl, fun y hy => (List.mem_cons.mp hy).elim (fun z => by rw [z]; exact hx.2) (q y)⟩
end
section
variable {X : Cx} {W : WX} {s s0 s1 : Sg}
def opSum : List D → Env → Out EV
  | [.list ds], ρ => (match intsOf ds with | some ns => .ok (.sh (.int ns.sum)) ρ | none => .stuck)
  | _, _ => .stuck
theorem df_sum (hc : X.calm = true) : DF1 X W (.builtin "sum") opSum := by
  refine ⟨fun s0 s ds us Q E t hσ r g => ?_⟩
  unfold opSum at g
  split at g
  · split at g
    · rename_i ns hn
      obtain ⟨u, rfl, r1⟩ := pair1 r
      obtain ⟨a, xs, rfl, hq, rr⟩ := ofS_list r1
      rw [intsOf_eq hn] at rr
      rw [reps_ints_inv rr] at hq
      exact (cr_sum hc).w ⟨a, ns, rfl, hq, g.flat E t hσ rep_int⟩
    · exact g.elim
  · exact g.elim
def opAny : List D → Env → Out EV
  | [.list ds], ρ => (match boolsOf ds with | some ns => .ok (.sh (.bool (ns.any id))) ρ | none => .stuck)
  | _, _ => .stuck
def opAll : List D → Env → Out EV
  | [.list ds], ρ => (match boolsOf ds with | some ns => .ok (.sh (.bool (ns.all id))) ρ | none => .stuck)
  | _, _ => .stuck
theorem df_any (hc : X.calm = true) : DF1 X W (.builtin "any") opAny := by
  refine ⟨fun s0 s ds us Q E t hσ r g => ?_⟩
  unfold opAny at g
  split at g
  · split at g
    · rename_i ns hn
      obtain ⟨u, rfl, r1⟩ := pair1 r
      obtain ⟨a, xs, rfl, hq, rr⟩ := ofS_list r1
      rw [boolsOf_eq hn] at rr
      rw [reps_bools_inv rr] at hq
      exact (cr_any hc).w ⟨a, ns, rfl, hq, g.flat E t hσ rep_bool⟩
    · exact g.elim
  · exact g.elim
theorem df_all (hc : X.calm = true) : DF1 X W (.builtin "all") opAll := by
  refine ⟨fun s0 s ds us Q E t hσ r g => ?_⟩
  unfold opAll at g
  split at g
  · split at g
    · rename_i ns hn
      obtain ⟨u, rfl, r1⟩ := pair1 r
      obtain ⟨a, xs, rfl, hq, rr⟩ := ofS_list r1
      rw [boolsOf_eq hn] at rr
      rw [reps_bools_inv rr] at hq
      exact (cr_all hc).w ⟨a, ns, rfl, hq, g.flat E t hσ rep_bool⟩
    · exact g.elim
  · exact g.elim
/-! sorted, min, max of data -/
def alikeB (ds : List D) : Bool := ds.all fun a => ds.all fun b => PySem.W.alike a b
def noneB (ds : List D) : Bool := ds.all fun a => !isN a
def deepB (ds : List D) : Bool := decide (PyData.depthAll ds ≤ 60)
def tupB : D → Bool
  | .tuple (_ :: _) => true
  | _ => false
def nontB : D → Bool
  | .tuple _ => false
  | .none => false
  | _ => true
def sortB (ds : List D) : Bool := alikeB ds && (ds.all tupB || ds.all nontB) && deepB ds
theorem alikeB_of {ds : List D} (h : alikeB ds = true) : ∀ d, d ∈ ds → ∀ d', d' ∈ ds → PySem.W.alike d d' = true := fun d hd d' hd' => by
  unfold alikeB at h
  rw [List.all_eq_true] at h
  have := h d hd
  rw [List.all_eq_true] at this
  exact this d' hd'
theorem sortB_of {ds : List D} (h : sortB ds = true) : PySem.W.AllAlike ds ∧ PySem.W.Sortable ds ∧ PyData.depthAll ds ≤ 60 := by
  unfold sortB at h
  simp only [Bool.and_eq_true, Bool.or_eq_true] at h
  refine ⟨alikeB_of h.1.1, ?_, of_decide_eq_true h.2⟩
  rcases h.1.2 with h | h
  · refine .inl fun d hd => ?_
    have := List.all_eq_true.mp h d hd
    unfold tupB at this
    split at this
    · exact ⟨_, _, rfl⟩
    · cases this
  · refine .inr fun d hd => ?_
    have := List.all_eq_true.mp h d hd
    unfold nontB at this
    split at this
    · cases this
    · cases this
    · rename_i h1 h2
      exact ⟨h2, fun xs e => h1 xs e⟩
theorem depth_mem : ∀ {ds : List D} {d : D}, d ∈ ds → d.depth ≤ PyData.depthAll ds
  | x :: xs, d, h => by
    simp only [PyData.depthAll]
    rcases List.mem_cons.mp h with rfl | h
    · omega
    · have := depth_mem h; omega
abbrev srt (ds : List D) : List D := ds.mergeSort (PySem.W.dataLe false id)
theorem each_of {pins : List (Addr × Obj)} {σ : L2.St} {H : Hp} {M : Addr → Prop} {st : Shared} (I : Inv X pins σ H st) : ∀ {ds : List D} {xs : List V} {us : List Value}, Reps X.K H M ds xs → Vals xs us → PySem.W.EachIs (fun u d => ∃ x, RelV x u ∧ Rep X.K H M d x) us ds
  | [], xs, us, h, r => by
    rw [reps_nil_inv h] at r; cases r; exact .nil
  | d :: ds, xs, us, h, r => by
    obtain ⟨x, xr, e, hx, t⟩ := reps_inv h
    subst e
    cases r with
    | cons r1 r2 => exact .cons ⟨x, r1, hx⟩ (each_of I t r2)
theorem of_each {K : PySem.W.Frag} {H : Hp} {M : Addr → Prop} : ∀ {us : List Value} {ds : List D}, PySem.W.EachIs (fun u d => ∃ x, RelV x u ∧ Rep K H M d x) us ds → ∃ xs, Vals xs us ∧ Reps K H M ds xs
  | _, _, .nil => ⟨[], .nil, reps_nil⟩
  | _, _, .cons ⟨x, r, h⟩ t => by
    obtain ⟨xs, rv, rr⟩ := of_each t
    exact ⟨x :: xs, .cons r rv, reps_cons h rr⟩
def opSorted : List D → Env → Out EV
  | [.list ds], ρ => if sortB ds = true then .ok (.fr (srt ds)) ρ else .stuck
  | _, _ => .stuck
theorem df_sorted (hu : Cu X) : DF1 X W (.builtin "sorted") opSorted := by
  refine ⟨fun s0 s ds us Q E t hσ r g => ?_⟩
  unfold opSorted at g
  split at g
  · rename_i ds
    split at g
    · rename_i hk
      obtain ⟨k1, k2, k3⟩ := sortB_of hk
      obtain ⟨u, rfl, r1⟩ := pair1 r
      obtain ⟨a, xs, rfl, hq, rr⟩ := ofS_list r1
      intro pins st σ vs I rv
      rw [Vals.ref1 rv]
      obtain ⟨its, rvs, hl, hz⟩ := I.list hq
      have hlen : ds.length ≤ sizeLine := by rw [← rr.length]; exact hz
      have e1 := each_of I rr rvs
      have hun : ∀ b, b ∈ ds → X.A.units + 2 + (id b : D).depth < cLine := fun b hb => by
        have := depth_mem hb
        have h2 := hu
        unfold Cu at h2
        show X.A.units + 2 + b.depth < cLine
        omega
      refine PySem.W.sorted_data (enc := id) hl.isList e1 (e1.mono fun u d ⟨x, r, h⟩ => rep_reads I d h r) (by rw [List.map_id]; exact k1) (by rw [List.map_id]; exact k2) hlen hun fun out hol eo => ?_
      obtain ⟨ys, ry, ry2⟩ := of_each eo
      obtain ⟨ep, he'⟩ := PyProof.Rows.sortedAll_at st.heap its out.toArray
      have hyl : ys.length ≤ sizeLine := by rw [ry.length, hol]; exact hlen
      exact ⟨.ref _, upd s.H (st.heap.objs.size + 1) (.lst ys), I.laid (t' := st.toks) (fun _ _ => PyProof.Rows.sortedAll_old) (Nat.le_succ _) ⟨hyl, out, ep, ry, he'⟩, rfl, GoalK.new_list E t hσ ry2 g _ (I.hok.fresh (Nat.le_succ _))⟩
    · exact g.elim
  · exact g.elim
end
end DL
namespace DL
open PySem PySem.Spec PyProof.Rows L2

section
variable {X : Cx} {W : WX} {s s0 s1 : Sg}
theorem vals_get' : ∀ {xs : List V} {us : List Value} {i : Nat} {u : Value}, Vals xs us → us[i]? = some u → ∃ x, xs[i]? = some x ∧ RelV x u
  | _, _, i, u, .nil, h => by simp at h
  | _, _, 0, u, .cons r t, h => by simp at h; subst h; exact ⟨_, rfl, r⟩
  | _, _, i + 1, u, .cons r t, h => by simpa using vals_get' t (i := i) (by simpa using h)
/-! min, max of data -/
def minB (ds : List D) : Bool := alikeB ds && noneB ds && deepB ds
theorem minB_of {ds : List D} (h : minB ds = true) : PySem.W.AlikeAll ds ∧ PyData.depthAll ds ≤ 60 := by
  unfold minB at h
  simp only [Bool.and_eq_true] at h
  refine ⟨⟨alikeB_of h.1.1, fun x hx => ?_⟩, of_decide_eq_true h.2⟩
  have := List.all_eq_true.mp h.1.2 x hx
  exact isN_ne (by simpa using this)
def opMin1 : List D → Env → Out EV
  | [.list (d :: ds)], ρ => if minB (d :: ds) = true then .ok (.sh (PySem.W.minD d ds)) ρ else .stuck
  | [.tuple (d :: ds)], ρ => if minB (d :: ds) = true then .ok (.sh (PySem.W.minD d ds)) ρ else .stuck
  | _, _ => .stuck
def opMax1 : List D → Env → Out EV
  | [.list (d :: ds)], ρ => if minB (d :: ds) = true then .ok (.sh (PySem.W.maxD d ds)) ρ else .stuck
  | [.tuple (d :: ds)], ρ => if minB (d :: ds) = true then .ok (.sh (PySem.W.maxD d ds)) ρ else .stuck
  | _, _ => .stuck
theorem mm_core {pins : List (Addr × Obj)} {σ : L2.St} {st : Shared} {ds : List D} {xs : List V} {its : List Value} {m : D} {Q : VK} (E : ER X.K X.mg s) (t : Tr s0 s) (hσ : s.σ = s0.σ) (I : Inv X pins σ s.H st) (rr : Reps X.K s.H s.M ds xs) (rvs : Vals xs its) (g : Goal X W (RE X) s0 (.ok (.sh m) s.ρ) Q)
    (i : Nat) (v : Value) (h' : Heap) (tk : Tok) (bs : List Addr) (hv : its.toArray[i]? = some v) (hr : Reads h' v m bs) (hk : ∀ b o, st.heap.get? b = some o → h'.get? b = some o) : EP X pins σ Q v { st with heap := h', toks := tk } := by
  have hv : its[i]? = some v := by simpa using hv
  obtain ⟨x, hx, rx⟩ := vals_get' rvs hv
  obtain ⟨d, hd⟩ := rr.get' hx
  obtain ⟨as, k1⟩ := rep_reads I d hd.2 rx
  have e := (reads_det (fun b o e _ => hk b o e) k1 hr).1
  subst e
  exact ⟨x, s.H, I.kept hk, rx, g.flat E t hσ hd.2⟩
theorem df_min1 (hc : X.calm = true) (hu : Cu X) : DF1 X W (.builtin "min") opMin1 := by
  refine ⟨fun s0 s ds us Q E t hσ r g => ?_⟩
  unfold opMin1 at g
  split at g
  · rename_i d ds
    split at g
    · rename_i hk
      obtain ⟨k1, k2⟩ := minB_of hk
      obtain ⟨u, rfl, r1⟩ := pair1 r
      obtain ⟨a, xs, rfl, hq, rr⟩ := ofS_list r1
      intro pins st σ vs I rv
      rw [Vals.ref1 rv]
      obtain ⟨its, rvs, hl, hz⟩ := I.list hq
      obtain ⟨as, ra⟩ := reps_reads I (d :: ds) rr rvs
      exact PySem.W.min_list_data (I.ok.hd hc) hl.isList (by simpa using ra) k1 (by have := hu; unfold Cu at this; omega) fun i v h' tk bs hv hr hk => mm_core E t hσ I rr rvs g i v h' tk bs hv hr hk
    · exact g.elim
  · rename_i d ds
    split at g
    · rename_i hk
      obtain ⟨k1, k2⟩ := minB_of hk
      obtain ⟨u, rfl, r1⟩ := pair1 r
      obtain ⟨a, xs, rfl, hq, rr⟩ := ofS_tup r1
      intro pins st σ vs I rv
      rw [Vals.ref1 rv]
      obtain ⟨its, rvs, hl, hz⟩ := I.tuple hq
      obtain ⟨as, ra⟩ := reps_reads I (d :: ds) rr rvs
      exact PySem.W.min_tuple_data (I.ok.hd hc) hl (by simpa using ra) k1 (by have := hu; unfold Cu at this; omega) fun i v h' tk bs hv hr hk => mm_core E t hσ I rr rvs g i v h' tk bs hv hr hk
    · exact g.elim
  · exact g.elim
theorem df_max1 (hc : X.calm = true) (hu : Cu X) : DF1 X W (.builtin "max") opMax1 := by
  refine ⟨fun s0 s ds us Q E t hσ r g => ?_⟩
  unfold opMax1 at g
  split at g
  · rename_i d ds
    split at g
    · rename_i hk
      obtain ⟨k1, k2⟩ := minB_of hk
      obtain ⟨u, rfl, r1⟩ := pair1 r
      obtain ⟨a, xs, rfl, hq, rr⟩ := ofS_list r1
      intro pins st σ vs I rv
      rw [Vals.ref1 rv]
      obtain ⟨its, rvs, hl, hz⟩ := I.list hq
      obtain ⟨as, ra⟩ := reps_reads I (d :: ds) rr rvs
      exact PySem.W.max_list_data (I.ok.hd hc) hl.isList (by simpa using ra) k1 (by have := hu; unfold Cu at this; omega) fun i v h' tk bs hv hr hk => mm_core E t hσ I rr rvs g i v h' tk bs hv hr hk
    · exact g.elim
  · rename_i d ds
    split at g
    · rename_i hk
      obtain ⟨k1, k2⟩ := minB_of hk
      obtain ⟨u, rfl, r1⟩ := pair1 r
      obtain ⟨a, xs, rfl, hq, rr⟩ := ofS_tup r1
      intro pins st σ vs I rv
      rw [Vals.ref1 rv]
      obtain ⟨its, rvs, hl, hz⟩ := I.tuple hq
      obtain ⟨as, ra⟩ := reps_reads I (d :: ds) rr rvs
      exact PySem.W.max_tuple_data (I.ok.hd hc) hl (by simpa using ra) k1 (by have := hu; unfold Cu at this; omega) fun i v h' tk bs hv hr hk => mm_core E t hσ I rr rvs g i v h' tk bs hv hr hk
    · exact g.elim
  · exact g.elim
/-! isinstance -/
def tyName : D → String
  | .none => "NoneType"
  | .bool _ => "bool"
  | .int _ => "int"
  | .str _ => "str"
  | .list _ => "list"
  | .tuple _ => "tuple"
  | .dict _ => "dict"
theorem tyx_of {K : PySem.W.Frag} {H : Hp} {M : Addr → Prop} {d : D} {u : V} (h : RepS K H M d u) : TyX K H u (.type (tyName d)) := by
  cases d with
  | none => have e := ofS_none h; subst e; exact .base .non
  | bool b => have e := ofS_bool h; subst e; exact .base (.bl b)
  | int i => have e := ofS_int h; subst e; exact .base (.int i)
  | str x => obtain ⟨rfl, _⟩ := ofS_str h; exact .base (.str x)
  | list ds =>
    obtain ⟨a, xs, rfl, hq, _⟩ := ofS_list h
    rcases hq with (hq | ⟨o, hq⟩) | ⟨o, its, n, e, c, _⟩
    · exact .base (.lst hq)
    · exact .base (.frz hq)
    · exact .kList e c
  | tuple ds =>
    obtain ⟨a, xs, rfl, hq, _⟩ := ofS_tup h
    rcases hq with (hq | ⟨o, hq⟩) | ⟨o, its, n, e, c, _⟩
    · exact .base (.tup hq)
    · exact .fTuple hq
    · exact .kTuple e c
  | dict kvs => exact (by simpa only [RepS, Rep] using h : False).elim
def isiB (T : String) (d : D) : Bool := tyName d == T || (tyName d == "bool" && T == "int")
def isiT (a T : String) : Bool := a == T || (a == "bool" && T == "int")
theorem isi_tab : (["NoneType", "bool", "int", "str", "list", "tuple", "dict"].all fun a => ["int", "bool", "str", "list", "tuple"].all fun T => kitB a T == some (isiT a T)) = true := by decide +kernel
theorem isi_kit {T : String} (hT : T ∈ ["int", "bool", "str", "list", "tuple"]) {K : PySem.W.Frag} (d : D) : PySem.W.kitOne K (.type (tyName d)) (.type T) = some (isiB T d) := by
  have h := List.all_eq_true.mp isi_tab (tyName d) (by cases d <;> simp [tyName])
  have h := List.all_eq_true.mp h T hT
  exact kit_ty (eq_of_beq h)
def isiV (T : String) (v : EV) (ρ : Env) : Out EV := match rdS v ρ with
  | some d => .ok (.sh (.bool (isiB T d))) ρ
  | none => .stuck
def fIsi (T : String) (f : Env → Out EV) : Env → Out EV := fun ρ => (f ρ).bind (isiV T)
theorem de_isi {T : String} {y : Str} {e : Expr} {p p2 pos : Pos} {f : Env → Out EV} (hT : T ∈ ["int", "bool", "str", "list", "tuple"]) (h : DE X W e f) (hg : Gl X "isinstance") (hm : X.mg "isinstance" = none) (hg2 : Gl X y) (hm2 : X.mg y = none) (hv : bootBuiltins y = some (.type T))
    (hn : y ≠ "__name__" := by decide) (hdb : (y == ("__debug__" : Str)) = false := by decide)
    (he : starEach [e, .Name y p2] X.env = (false, eval e X.env) :: starEach [.Name y p2] X.env := by rfl) (hs2 : starEach [.Name y p2] X.env = (false, eval (.Name y p2) X.env) :: starEach [] X.env := by rfl) (hpl : (backTo pos (starEach [.Name y p2] X.env)).any (·.1) = false := by rfl) : DE X W (.Call (.Name "isinstance" p) [e, .Name y p2] [] pos) (fIsi T f) := by
  refine ⟨fun s Q E g => (pe_callB call_isi hg hm PyProof.Rows.boot_isinstance (pa_cons (pe_w e) (pa_cons (pe_bltn (v := .ty T) hg2 hm2 hv rfl hn hdb) pa_nil hs2) he) (he := he) (hpl := hpl)).w ?_⟩
  refine (h.run s _ E (GoalK.bind0 E g)).mono fun u H2 ⟨v, s2, hσ, hH, _, t, _, E2, ⟨r, fr⟩, g2⟩ => ?_
  subst hH
  unfold isiV at g2
  split at g2
  · rename_i d ed
    exact ⟨u, .ty T, _, _, _, rfl, .ty T, tyx_of (rdS_ok E2 r ed), isi_kit hT d, g2.flat E2 t hσ rep_bool⟩
  · exact g2.elim
end
end DL
namespace DL
open PySem PySem.Spec PyProof.Rows L2

/-! ### methods -/
def wM (X : Cx) (id : String) (x : V) (us : List V) (H : Hp) (Q : VK) : Prop := ∀ (pins : List (Addr × Obj)) (st : Shared) (σ : L2.St) (v : Value) (vs : List Value), Inv X pins σ H st → RelV x v → Vals us vs → wpAny (model X.prog X.w) X.A (call (.builtin id) (v :: vs)) (EP X pins σ Q) X.xe st
theorem mtr_w {X : Cx} {id : String} : MtR X id (wM X id) := fun pins s σ H x xs v us Q I r rs h => h pins s σ v us I r rs
theorem _root_.L2.MtR.w {X : Cx} {id : String} {r : V → List V → Hp → VK → Prop} (h : MtR X id r) {x : V} {us : List V} {H : Hp} {Q : VK} (q : r x us H Q) : wM X id x us H Q := fun pins s σ v vs I r rs => h pins s σ H x us v vs Q I r rs q
structure DMt (X : Cx) (W : WX) (T id : String) (op : D → List D → Env → Out EV) : Prop where
  run : ∀ (s0 s : Sg) (d : D) (ds : List D) (u : V) (us : List V) (Q : VK), ER X.K X.mg s → Tr s0 s → s.σ = s0.σ → RepS X.K s.H s.M d u → tyName d = T → Paired (fun d u => RepS X.K s.H s.M d u) ds us → Goal X W (RE X) s0 (op d ds s.ρ) Q → wM X id u us s.H Q
def isTy (T : String) (v : EV) (ρ : Env) : Bool := match rdS v ρ with
  | some d => tyName d == T
  | none => false
def rdM (T : String) (op : D → List D → Env → Out EV) (v : EV) (vs : List EV) (ρ : Env) : Out EV := match rdS v ρ, rdSs vs ρ with
  | some d, some ds => if tyName d = T then op d ds ρ else .stuck
  | _, _ => .stuck
def fMt (T : String) (op : D → List D → Env → Out EV) (fo : Env → Out EV) (fa : Env → Out (List EV)) : Env → Out EV := fun ρ => (fo ρ).bind fun v ρ1 => if isTy T v ρ1 = true then (fa ρ1).bind fun vs ρ2 => rdM T op v vs ρ2 else .stuck
section
variable {X : Cx} {W : WX} {s s0 s1 : Sg}
theorem tyv_of {T : String} {v : EV} {u : V} (hT : T = "str" ∨ T = "list") (E : ER X.K X.mg s) (r : EVR X.K X.mg s v u) (h : isTy T v s.ρ = true) : tyV X.K T u s.H := by
  unfold isTy at h
  split at h
  · rename_i d e
    have q := rdS_ok E r e
    have h := eq_of_beq h
    subst h
    cases d with
    | none => rcases hT with h | h <;> simp [tyName] at h
    | bool b => rcases hT with h | h <;> simp [tyName] at h
    | int i => rcases hT with h | h <;> simp [tyName] at h
    | tuple ds => rcases hT with h | h <;> simp [tyName] at h
    | dict ds => rcases hT with h | h <;> simp [tyName] at h
    | str x => obtain ⟨rfl, _⟩ := ofS_str q; rfl
    | list ds =>
      obtain ⟨a, xs, rfl, hq, _⟩ := ofS_list q
      exact .inl ⟨rfl, xs, hq⟩
  · cases h
theorem mt_core {T id : String} {op : D → List D → Env → Out EV} (ho : DMt X W T id op) {o : Expr} {fo : Env → Out EV} (hT : T = "str" ∨ T = "list") (h : DE X W o fo) {es : List Expr} {fa : Env → Out (List EV)} (ha : DEs X W es fa) {Q : VK} (E : ER X.K X.mg s) (g : Goal X W (RE X) s (fMt T op fo fa s.ρ) Q) :
    wE X o s.σ s.H (fun x H1 => tyV X.K T x H1 ∧ wA X es s.σ H1 fun xs H2 => wM X id x xs H2 Q) := by
  refine (h.run s _ E (GoalK.bind0 E g)).mono fun u H1 ⟨v, s1, hσ, hH, _, t1, _, E1, ⟨r1, _⟩, g1⟩ => ?_
  subst hH
  split at g1
  · rename_i hi
    refine ⟨tyv_of hT E1 r1 hi, ?_⟩
    rw [← hσ]
    refine (ha.run s1 _ E1 (GoalK.bind t1 hσ g1)).mono fun us H2 ⟨vs, s2, hσ2, hH2, _, t2, t12, E2, r2, g2⟩ => ?_
    subst hH2
    unfold rdM at g2
    split at g2
    · rename_i d ds e1 e2
      split at g2
      · rename_i ht
        exact ho.run s s2 d ds u us Q E2 t2 (hσ2.trans hσ) (rdS_ok E2 (EVR.tr E1 t12 hσ2 r1) e1) ht (rdSs_ok E2 r2 e2) g2
      · exact g2.elim
    · exact g2.elim
  · exact g1.elim
theorem de_mt {T id : String} {name : Str} {o e : Expr} {es : List Expr} {apos cpos : Pos} {op : D → List D → Env → Out EV} {fo : Env → Out EV} {fa : Env → Out (List EV)} (hT : T = "str" ∨ T = "list") (pa : PlainAttrs T) (slot : Slot T name id) (hty : typeOf (.builtin id) = pure (.type "method_descriptor")) (ho : DMt X W T id op) (h : DE X W o fo) (ha : DEs X W (e :: es) fa)
    (hbase : attributeBase o name X.env (eval o X.env) = eval o X.env := by rfl)
    (hfew : ((backTo cpos (starEach (e :: es) X.env)).all (fun x => !x.1) && (backToKw cpos (keywordEach [] X.env)).all (fun x => x.1.isSome)
      && decide ((e :: es).length + ([] : List Keyword).length + (if ([] : List Keyword).isEmpty then 0 else 1) < 30)) = true := by rfl)
    (hline : (apos.endLine == cpos.line) = true := by rfl) (hs : starEach (e :: es) X.env = (false, eval e X.env) :: starEach es X.env := by rfl) (hplain : (backTo cpos (starEach es X.env)).any (·.1) = false := by rfl) :
    DE X W (.Call (.Attribute o name apos) (e :: es) [] cpos) (fMt T op fo fa) :=
  ⟨fun s Q E g => (pe_bm pa slot hty mtr_w (pe_w o) (pa_w (e :: es)) hbase hfew hline hs hplain).w (mt_core ho hT h ha E g)⟩
def fMt0 (T : String) (op : D → List D → Env → Out EV) (fo : Env → Out EV) : Env → Out EV := fun ρ => (fo ρ).bind fun v ρ1 => if isTy T v ρ1 = true then rdM T op v [] ρ1 else .stuck
theorem de_mt0 {T id : String} {name : Str} {o : Expr} {apos cpos : Pos} {op : D → List D → Env → Out EV} {fo : Env → Out EV} (hT : T = "str" ∨ T = "list") (pa : PlainAttrs T) (slot : Slot T name id) (hty : typeOf (.builtin id) = pure (.type "method_descriptor")) (ho : DMt X W T id op) (h : DE X W o fo)
    (hbase : attributeBase o name X.env (eval o X.env) = eval o X.env := by rfl) (hline : (apos.endLine == cpos.line) = true := by rfl) :
    DE X W (.Call (.Attribute o name apos) [] [] cpos) (fMt0 T op fo) := by
  refine ⟨fun s Q E g => (pe_bm0 pa slot hty mtr_w (pe_w o) hbase hline).w ?_⟩
  refine (h.run s _ E (GoalK.bind0 E g)).mono fun u H1 ⟨v, s1, hσ, hH, _, t1, _, E1, ⟨r1, _⟩, g1⟩ => ?_
  subst hH
  split at g1
  · rename_i hi
    refine ⟨tyv_of hT E1 r1 hi, ?_⟩
    unfold rdM at g1
    split at g1
    · rename_i d ds e1 e2
      split at g1
      · rename_i ht
        exact ho.run s s1 d ds u [] Q E1 t1 hσ (rdS_ok E1 r1 e1) ht (rdSs_ok E1 .nil e2) g1
      · exact g1.elim
    · exact g1.elim
  · exact g1.elim

/-! of texts -/
theorem join_eq (a : Str) (ys : List Str) : Txt.join a ys = Str.join a ys := StrLaws.glued_eq_join a ys
theorem join_le (a : Str) (ys : List Str) : (Txt.join a ys).length ≤ (ys.map (·.length)).sum + ys.length * a.length := by
  rw [join_eq]; exact StrLaws.join_length_le a ys
def opJoin : D → List D → Env → Out EV
  | .str a, [.list ds], ρ => (match strsOf ds with
    | some ys => if (ys.map (·.length)).sum + ys.length * a.length ≤ 16777216 then .ok (.sh (.str (Txt.join a ys))) ρ else .stuck
    | none => .stuck)
  | _, _, _ => .stuck
theorem dm_join : DMt X W "str" "str.join" opJoin := by
  refine ⟨fun s0 s d ds u us Q E t hσ r ht rs g => ?_⟩
  unfold opJoin at g
  split at g
  · split at g
    · rename_i ys hy
      split at g
      · rename_i hz
        obtain ⟨rfl, hl⟩ := ofS_str r
        obtain ⟨u, rfl, r1⟩ := pair1 rs
        obtain ⟨p, xs, rfl, hq, rr⟩ := ofS_list r1
        rw [strsOf_eq hy] at rr
        rw [(reps_strs_inv rr).1] at hq
        refine mt_join.w ⟨_, p, ys, rfl, rfl, .inl hq, hz, g.flat E t hσ (rep_str ?_)⟩
        exact Nat.le_trans (join_le _ _) (by rw [sizeLine_eq]; omega)
      · exact g.elim
    · exact g.elim
  · exact g.elim
def opSplit : D → List D → Env → Out EV
  | .str a, [.str b], ρ => if (b.length == 0) = false ∧ a.length + 2 ≤ sizeLine ∧ ((Txt.split a b).all fun x => decide (x.length ≤ sizeLine)) = true then .ok (.fr ((Txt.split a b).map .str)) ρ else .stuck
  | _, _, _ => .stuck
theorem reps_strs {K : PySem.W.Frag} {H : Hp} {M : Addr → Prop} : ∀ {ys : List Str}, (∀ y ∈ ys, y.length ≤ sizeLine) → Reps K H M (ys.map .str) (ys.map V.str)
  | [], _ => reps_nil
  | y :: ys, h => reps_cons (rep_str (h y (by simp))) (reps_strs fun z hz => h z (by simp [hz]))
theorem dm_split : DMt X W "str" "str.split" opSplit := by
  refine ⟨fun s0 s d ds u us Q E t hσ r ht rs g => ?_⟩
  unfold opSplit at g
  split at g
  · split at g
    · rename_i hz
      obtain ⟨rfl, hl⟩ := ofS_str r
      obtain ⟨u, rfl, r1⟩ := pair1 rs
      obtain ⟨rfl, hb⟩ := ofS_str r1
      refine mt_split.w ⟨_, _, rfl, rfl, hz.1, hz.2.1, ?_⟩
      exact GoalK.new_list E t hσ (reps_strs fun y hy => of_decide_eq_true (List.all_eq_true.mp hz.2.2 y hy)) g
    · exact g.elim
  · exact g.elim
def op1S (f : Str → Str → D) : D → List D → Env → Out EV
  | .str a, [.str b], ρ => .ok (.sh (f a b)) ρ
  | _, _, _ => .stuck
theorem dm_startswith : DMt X W "str" "str.startswith" (op1S fun a b => .bool (Txt.startswith a b)) := by
  refine ⟨fun s0 s d ds u us Q E t hσ r ht rs g => ?_⟩
  unfold op1S at g
  split at g
  · obtain ⟨rfl, hl⟩ := ofS_str r
    obtain ⟨u, rfl, r1⟩ := pair1 rs
    obtain ⟨rfl, hb⟩ := ofS_str r1
    exact mt_startswith.w ⟨_, _, rfl, rfl, g.flat E t hσ rep_bool⟩
  · exact g.elim
theorem dm_endswith : DMt X W "str" "str.endswith" (op1S fun a b => .bool (Txt.endswith a b)) := by
  refine ⟨fun s0 s d ds u us Q E t hσ r ht rs g => ?_⟩
  unfold op1S at g
  split at g
  · obtain ⟨rfl, hl⟩ := ofS_str r
    obtain ⟨u, rfl, r1⟩ := pair1 rs
    obtain ⟨rfl, hb⟩ := ofS_str r1
    exact mt_endswith.w ⟨_, _, rfl, rfl, g.flat E t hσ rep_bool⟩
  · exact g.elim
theorem dm_find : DMt X W "str" "str.find" (op1S fun a b => .int (Txt.find a b)) := by
  refine ⟨fun s0 s d ds u us Q E t hσ r ht rs g => ?_⟩
  unfold op1S at g
  split at g
  · obtain ⟨rfl, hl⟩ := ofS_str r
    obtain ⟨u, rfl, r1⟩ := pair1 rs
    obtain ⟨rfl, hb⟩ := ofS_str r1
    exact mt_find.w ⟨_, _, rfl, rfl, g.flat E t hσ rep_int⟩
  · exact g.elim
theorem dm_count : DMt X W "str" "str.count" (op1S fun a b => .int (Txt.count a b)) := by
  refine ⟨fun s0 s d ds u us Q E t hσ r ht rs g => ?_⟩
  unfold op1S at g
  split at g
  · obtain ⟨rfl, hl⟩ := ofS_str r
    obtain ⟨u, rfl, r1⟩ := pair1 rs
    obtain ⟨rfl, hb⟩ := ofS_str r1
    exact mt_count.w ⟨_, _, rfl, rfl, g.flat E t hσ rep_int⟩
  · exact g.elim
def opSIndex : D → List D → Env → Out EV
  | .str a, [.str b], ρ => (match Builtin.Str.occurrences a b 0 a.length 1 with
    | i :: _ => .ok (.sh (.int (i : Nat))) ρ
    | [] => .stuck)
  | _, _, _ => .stuck
theorem dm_sindex : DMt X W "str" "str.index" opSIndex := by
  refine ⟨fun s0 s d ds u us Q E t hσ r ht rs g => ?_⟩
  unfold opSIndex at g
  split at g
  · split at g
    · rename_i i rest ho
      obtain ⟨rfl, hl⟩ := ofS_str r
      obtain ⟨u, rfl, r1⟩ := pair1 rs
      obtain ⟨rfl, hb⟩ := ofS_str r1
      exact mt_sindex.w ⟨_, _, i, rest, rfl, rfl, ho, g.flat E t hσ rep_int⟩
    · exact g.elim
  · exact g.elim
def opStarts3 : D → List D → Env → Out EV
  | .str a, [.str b, .int i], ρ => .ok (.sh (.bool (Txt.startswith3 a b i))) ρ
  | _, _, _ => .stuck
theorem dm_starts3 : DMt X W "str" "str.startswith" opStarts3 := by
  refine ⟨fun s0 s d ds u us Q E t hσ r ht rs g => ?_⟩
  unfold opStarts3 at g
  split at g
  · obtain ⟨rfl, hl⟩ := ofS_str r
    obtain ⟨u, v, rfl, r1, r2⟩ := pair2 rs
    obtain ⟨rfl, hb⟩ := ofS_str r1
    have e := ofS_int r2; subst e
    exact mt_startswith3.w ⟨_, _, _, rfl, rfl, g.flat E t hσ rep_bool⟩
  · exact g.elim
def opUpper : D → List D → Env → Out EV
  | .str a, [], ρ => if a.length ≤ 5592405 then .ok (.sh (.str (Txt.upper a))) ρ else .stuck
  | _, _, _ => .stuck
theorem dm_upper : DMt X W "str" "str.upper" opUpper := by
  refine ⟨fun s0 s d ds u us Q E t hσ r ht rs g => ?_⟩
  unfold opUpper at g
  split at g
  · split at g
    · rename_i hz
      obtain ⟨rfl, hl⟩ := ofS_str r
      cases rs
      exact mt_upper.w ⟨_, rfl, rfl, hz, g.flat E t hσ (rep_str (Nat.le_trans (PyProof.Rows.len_upper _) (by rw [sizeLine_eq]; omega)))⟩
    · exact g.elim
  · exact g.elim
end
end DL
namespace DL
open PySem PySem.Spec PyProof.Rows L2

section
variable {X : Cx} {W : WX} {s s0 s1 s2 : Sg}
/-! ### an own list is changed -/
theorem mut_slot (E : ER X.K X.mg s) (t : Tr s0 s) {i : Nat} {b : Bool} {ds ds' : List D} {l : Addr} {xs' : List V} (hi : s.ρ[i]? = some (some (.ow b ds))) (hu : s.σ[i]? = some (some (.ref l))) (r : Reps X.K s.H s.M ds' xs') :
    ER X.K X.mg ⟨s.M, s.ρ.set i (some (.ow b ds')), s.σ, upd s.H l (.lst xs')⟩ ∧ Tr s0 ⟨s.M, s.ρ.set i (some (.ow b ds')), s.σ, upd s.H l (.lst xs')⟩ := by
  have hown : s.Own l := ⟨i, _, hi, rfl, hu⟩
  obtain ⟨hm, xs, hh⟩ := E.own_lst hown
  have hlt : i < s.ρ.length := (List.getElem?_eq_some_iff.mp hi).1
  have ht : ∀ a xs, Rd s.H a (.tup xs) → Rd (upd s.H l (.lst xs')) a (.tup xs) := fun a zs h => by
    have ne : a ≠ l := fun z => by
      subst z
      rcases h with h | ⟨o', h⟩ <;> (rw [hh] at h; cases h)
    rcases h with h | ⟨o', h⟩
    · exact .inl (by rw [upd_ne ne]; exact h)
    · exact .inr ⟨o', by rw [upd_ne ne]; exact h⟩
  have hl : ∀ a xs, s.H a = some (.lst xs) → ¬ s.M a → (upd s.H l (.lst xs')) a = some (.lst xs) ∧ ¬ s.M a := fun a xs h n => ⟨(upd_ne (fun z => n (by rw [z]; exact hm))).trans h, n⟩
  have sub : ∀ (j : Nat) sv, (s.ρ.set i (some (.ow b ds')))[j]? = some (some sv) → (j = i ∧ sv = .ow b ds') ∨ (j ≠ i ∧ s.ρ[j]? = some (some sv)) := fun j sv e => by
    by_cases hj : i = j
    · subst hj; rw [List.getElem?_set_self hlt] at e; cases e; exact .inl ⟨rfl, rfl⟩
    · rw [List.getElem?_set_ne hj] at e
      exact .inr ⟨fun z => hj z.symm, e⟩
  have sub' : ∀ (j : Nat) sv, (s.ρ.set i (some (.ow b ds')))[j]? = some (some sv) → sv.own = true → ∃ sv', s.ρ[j]? = some (some sv') ∧ sv'.own = true := fun j sv e o => by
    rcases sub j sv e with ⟨z1, z2⟩ | ⟨z1, z2⟩
    · subst z1; exact ⟨_, hi, rfl⟩
    · exact ⟨sv, z2, o⟩
  have ownb : ∀ c, Sg.Own ⟨s.M, s.ρ.set i (some (.ow b ds')), s.σ, upd s.H l (.lst xs')⟩ c → s.Own c := fun c w => own_of_sub (s := s) (s' := ⟨s.M, s.ρ.set i (some (.ow b ds')), s.σ, upd s.H l (.lst xs')⟩) rfl sub' w
  have back : s0.Own l ∨ s0.H l = none := t.own l hown
  refine ⟨⟨by simpa using E.len, fun j sv e => ?_, fun j k p q c e1 e2 e3 e4 e5 e6 => ?_, fun c h => ?_⟩, ⟨fun c o h hw => ?_, fun c h => ?_, t.mnew, t.mold, fun c h => t.own c (ownb c h), fun j sv e q => ?_, by simpa using t.ln⟩⟩
  · rcases sub j sv e with ⟨z1, z2⟩ | ⟨z1, z2⟩
    · subst z1; subst z2
      exact ⟨_, hu, l, xs', rfl, upd_same, hm, Reps.move ht hl ds' r⟩
    · obtain ⟨u, e2, r'⟩ := E.slot j sv z2
      refine ⟨u, e2, ?_⟩
      cases sv with
      | sh d => exact Rep.move ht hl d r'
      | ow b2 ds2 =>
        obtain ⟨a, ys, e3, hh2, hm2, q⟩ := r'
        refine ⟨a, ys, e3, (upd_ne (fun z => z1 ?_)).trans hh2, hm2, Reps.move ht hl ds2 q⟩
        subst z; subst e3
        exact E.inj j i _ _ a z2 rfl e2 hi rfl hu
      | fn x => exact r'
      | sc ns =>
        obtain ⟨a, e3, q⟩ := r'
        refine ⟨a, e3, ?_⟩
        rcases q with ⟨ob, q⟩ | q
        · exact .inl ⟨ob, (upd_ne (fun z => by subst z; rw [hh] at q; cases q)).trans q⟩
        · exact .inr q
  · obtain ⟨p', f1, f2⟩ := sub' j p e1 e2
    obtain ⟨q', f3, f4⟩ := sub' k q e4 e5
    exact E.inj j k p' q' c f1 f2 e3 f3 f4 e6
  · by_cases z : c = l
    · exact ⟨_, by rw [z]; exact upd_same⟩
    · obtain ⟨ob, e⟩ := E.live c h
      exact ⟨ob, (upd_ne z).trans e⟩
  · refine (upd_ne fun z => ?_).trans (t.ext c o h hw)
    subst z
    rcases back with y | y
    · exact hw y
    · rw [y] at h; cases h
  · by_cases z : c = l
    · exact ⟨_, by rw [z]; exact upd_same⟩
    · obtain ⟨ys, e⟩ := t.mt c h
      exact ⟨ys, (upd_ne z).trans e⟩
  · obtain ⟨⟨sv', e1, l1⟩, e2⟩ := t.lent j sv e q
    refine ⟨?_, e2⟩
    by_cases hj : i = j
    · subst hj
      have e1 : s.ρ[i]? = some (some sv') := e1
      rw [hi] at e1; cases e1
      exact ⟨.ow b ds', List.getElem?_set_self hlt, by cases b <;> first | rfl | cases l1⟩
    · exact ⟨sv', (List.getElem?_set_ne hj).trans e1, l1⟩
/-- the name of an own list -/
def isOw (i : Nat) (ρ : Env) : Bool := match ρ[i]? with
  | some (some (.ow _ _)) => true
  | _ => false
theorem own_at (E : ER X.K X.mg s) {i : Nat} {b : Bool} {ds : List D} (hi : s.ρ[i]? = some (some (.ow b ds))) : ∃ l xs, s.σ[i]? = some (some (.ref l)) ∧ s.H l = some (.lst xs) ∧ Reps X.K s.H s.M ds xs := by
  obtain ⟨u, e1, a, xs, e2, hh, hm, q⟩ := E.slot i _ hi
  subst e2
  exact ⟨a, xs, e1, hh, q⟩
theorem isOw_of {i : Nat} {ρ : Env} (h : isOw i ρ = true) : ∃ b ds, ρ[i]? = some (some (.ow b ds)) := by
  unfold isOw at h
  split at h
  · exact ⟨_, _, by assumption⟩
  · cases h
/-- a change of slot i's list by what a method does: op gives the new list and the answer -/
def mutV (i : Nat) (op : List D → List D → Option (List D × D)) (vs : List EV) (ρ : Env) : Out EV := match ρ[i]?, rdSs vs ρ with
  | some (some (.ow b ds)), some as => (match op ds as with
    | some (ds', r) => .ok (.sh r) (ρ.set i (some (.ow b ds')))
    | none => .stuck)
  | _, _ => .stuck
def fMut (i : Nat) (op : List D → List D → Option (List D × D)) (fa : Env → Out (List EV)) : Env → Out EV := fun ρ => if isOw i ρ = true then (fa ρ).bind (mutV i op) else .stuck
def fMut0 (i : Nat) (op : List D → List D → Option (List D × D)) : Env → Out EV := fun ρ => if isOw i ρ = true then mutV i op [] ρ else .stuck
structure DMu (X : Cx) (id : String) (op : List D → List D → Option (List D × D)) : Prop where
  run : ∀ (s : Sg) (l : Addr) (xs : List V) (ds as : List D) (us : List V) (ds' : List D) (r : D) (Q : VK), ER X.K X.mg s → s.H l = some (.lst xs) → Reps X.K s.H s.M ds xs → Paired (fun d u => RepS X.K s.H s.M d u) as us → op ds as = some (ds', r) →
    (∀ xs' u, Reps X.K s.H s.M ds' xs' → Rep X.K s.H s.M r u → Q u (upd s.H l (.lst xs'))) → wM X id (.ref l) us s.H Q
theorem mut_core {id : String} {op : List D → List D → Option (List D × D)} (ho : DMu X id op) {i : Nat} {vs : List EV} {us : List V} {u : V} {Q : VK} (E : ER X.K X.mg s) (t : Tr s0 s) (hσ : s.σ = s0.σ) (hu : s.σ[i]? = some (some u)) (r : Paired (fun v u => EVR X.K X.mg s v u) vs us) (g : Goal X W (RE X) s0 (mutV i op vs s.ρ) Q) : wM X id u us s.H Q := by
  unfold mutV at g
  split at g
  · rename_i b ds as hi e2
    split at g
    · rename_i ds' rr e3
      obtain ⟨l, xs, h1, h2, h3⟩ := own_at E hi
      rw [hu] at h1; cases h1
      refine ho.run s l xs ds as us ds' rr Q E h2 h3 (rdSs_ok E r e2) e3 fun xs' w q1 q2 => ?_
      obtain ⟨E', t'⟩ := mut_slot E t hi hu q1
      obtain ⟨hm, ys, hh⟩ := E.own_lst (b := l) ⟨i, _, hi, rfl, hu⟩
      refine g.fin (s2 := ⟨s.M, s.ρ.set i (some (.ow b ds')), s.σ, upd s.H l (.lst xs')⟩) hσ t' E' ⟨?_, trivial⟩
      have tt := mut_slot E (Tr.refl E) hi hu q1
      exact Rep.tr E tt.2 q2
    · exact g.elim
  · exact g.elim
theorem de_mut {id : String} {name x : Str} {i : Nat} {e : Expr} {es : List Expr} {xpos apos cpos : Pos} {op : List D → List D → Option (List D × D)} {fa : Env → Out (List EV)} (slot : Slot "list" name id) (hty : typeOf (.builtin id) = pure (.type "method_descriptor")) (ho : DMu X id op) (ha : DEs X W (e :: es) fa)
    (hN : X.N[i]? = some x) (hv : Vis X.env.scope x) (hd : (x == ("__debug__" : Str)) = false := by decide) (hcd : (x == ("__classdict__" : Str)) = false := by decide)
    (hbase : attributeBase (.Name x xpos) name X.env (eval (.Name x xpos) X.env) = eval (.Name x xpos) X.env := by rfl)
    (hfew : ((backTo cpos (starEach (e :: es) X.env)).all (fun x => !x.1) && (backToKw cpos (keywordEach [] X.env)).all (fun x => x.1.isSome)
      && decide ((e :: es).length + ([] : List Keyword).length + (if ([] : List Keyword).isEmpty then 0 else 1) < 30)) = true := by rfl)
    (hline : (apos.endLine == cpos.line) = true := by rfl) (hs : starEach (e :: es) X.env = (false, eval e X.env) :: starEach es X.env := by rfl) (hplain : (backTo cpos (starEach es X.env)).any (·.1) = false := by rfl) :
    DE X W (.Call (.Attribute (.Name x xpos) name apos) (e :: es) [] cpos) (fMut i op fa) := by
  refine ⟨fun s Q E g => (pe_bm PySem.F.plainAttrs_list slot hty mtr_w (pe_var hN hv hd hcd) (pa_w (e :: es)) hbase hfew hline hs hplain).w ?_⟩
  unfold fMut at g
  split at g
  · rename_i h
    obtain ⟨b, ds, hi⟩ := isOw_of h
    obtain ⟨l, xs, h1, h2, h3⟩ := own_at E hi
    refine ⟨.ref l, h1, .inl ⟨rfl, xs, .of h2⟩, ?_⟩
    refine (ha.run s _ E (GoalK.bind0 E g)).mono fun us H2 ⟨vs, s2, hσ2, hH2, _, t2, t12, E2, r2, g2⟩ => ?_
    subst hH2
    exact mut_core ho E2 t2 hσ2 (by rw [hσ2]; exact h1) r2 g2
  · exact g.elim
theorem de_mut0 {id : String} {name x : Str} {i : Nat} {xpos apos cpos : Pos} {op : List D → List D → Option (List D × D)} (slot : Slot "list" name id) (hty : typeOf (.builtin id) = pure (.type "method_descriptor")) (ho : DMu X id op)
    (hN : X.N[i]? = some x) (hv : Vis X.env.scope x) (hd : (x == ("__debug__" : Str)) = false := by decide) (hcd : (x == ("__classdict__" : Str)) = false := by decide)
    (hbase : attributeBase (.Name x xpos) name X.env (eval (.Name x xpos) X.env) = eval (.Name x xpos) X.env := by rfl) (hline : (apos.endLine == cpos.line) = true := by rfl) :
    DE X W (.Call (.Attribute (.Name x xpos) name apos) [] [] cpos) (fMut0 i op) := by
  refine ⟨fun s Q E g => (pe_bm0 PySem.F.plainAttrs_list slot hty mtr_w (pe_var hN hv hd hcd) hbase hline).w ?_⟩
  unfold fMut0 at g
  split at g
  · rename_i h
    obtain ⟨b, ds, hi⟩ := isOw_of h
    obtain ⟨l, xs, h1, h2, h3⟩ := own_at E hi
    refine ⟨.ref l, h1, .inl ⟨rfl, xs, .of h2⟩, ?_⟩
    exact mut_core ho E (Tr.refl E) rfl h1 .nil g
  · exact g.elim
/-! append: what is put in is data -/
def appV (i : Nat) (as : List D) (ρ : Env) : Out EV := match ρ[i]?, as with
  | some (some (.ow b ds)), [d] => if ds.length < sizeLine then .ok (.sh .none) (ρ.set i (some (.ow b (ds ++ [d])))) else .stuck
  | _, _ => .stuck
def fApp (i : Nat) (fa : Env → Out (List D)) : Env → Out EV := fun ρ => if isOw i ρ = true then (fa ρ).bind (appV i) else .stuck
theorem de_app {x : Str} {i : Nat} {e : Expr} {xpos apos cpos : Pos} {fa : Env → Out (List D)} (ha : DDs X W [e] fa)
    (hN : X.N[i]? = some x) (hv : Vis X.env.scope x) (hd : (x == ("__debug__" : Str)) = false := by decide) (hcd : (x == ("__classdict__" : Str)) = false := by decide)
    (hbase : attributeBase (.Name x xpos) "append" X.env (eval (.Name x xpos) X.env) = eval (.Name x xpos) X.env := by rfl)
    (hfew : ((backTo cpos (starEach [e] X.env)).all (fun x => !x.1) && (backToKw cpos (keywordEach [] X.env)).all (fun x => x.1.isSome)
      && decide ([e].length + ([] : List Keyword).length + (if ([] : List Keyword).isEmpty then 0 else 1) < 30)) = true := by rfl)
    (hline : (apos.endLine == cpos.line) = true := by rfl) (hs : starEach [e] X.env = (false, eval e X.env) :: starEach [] X.env := by rfl) (hplain : (backTo cpos (starEach [] X.env)).any (·.1) = false := by rfl) :
    DE X W (.Call (.Attribute (.Name x xpos) "append" apos) [e] [] cpos) (fApp i fa) := by
  refine ⟨fun s Q E g => (pe_bm PySem.F.plainAttrs_list PySem.F.slot_list_append PySem.F.type_list_append mtr_w (pe_var hN hv hd hcd) (pa_w [e]) hbase hfew hline hs hplain).w ?_⟩
  unfold fApp at g
  split at g
  · rename_i h
    obtain ⟨b, ds, hi⟩ := isOw_of h
    obtain ⟨l, xs, h1, h2, h3⟩ := own_at E hi
    refine ⟨.ref l, h1, .inl ⟨rfl, xs, .of h2⟩, ?_⟩
    refine (ha.run s _ E (GoalK.bind0 E g)).mono fun us H2 ⟨as, s2, hσ2, hH2, he, t2, t12, E2, r2, g2⟩ => ?_
    clear he
    subst hH2
    replace r2 : Reps X.K s2.H s2.M as us := r2
    have hu : s2.σ[i]? = some (some (.ref l)) := by rw [hσ2]; exact h1
    unfold appV at g2
    split at g2
    · rename_i b ds d hi2
      split at g2
      · rename_i hz
        obtain ⟨l', xs', k1, k2, k3⟩ := own_at E2 hi2
        rw [hu] at k1; cases k1
        obtain ⟨y, yr, e1, ry, e2⟩ := reps_inv r2
        have e2 := reps_nil_inv e2
        subst e1; subst e2
        have q1 : Reps X.K s2.H s2.M (ds ++ [d]) (xs' ++ [y]) := k3.append (reps_cons ry reps_nil)
        obtain ⟨E', t'⟩ := mut_slot E2 t2 hi2 hu q1
        refine (show MtR X "list.append" rAppend from mt_append).w ⟨l, xs', y, rfl, rfl, k2, by rw [k3.length]; exact hz, ?_⟩
        exact g2.fin (s2 := ⟨s2.M, s2.ρ.set i (some (.ow b (ds ++ [d]))), s2.σ, upd s2.H l (.lst (xs' ++ [y]))⟩) hσ2 t' E' ⟨by show Rep _ _ _ _ _; simp only [Rep], trivial⟩
      · exact g2.elim
    · exact g2.elim
  · exact g.elim
/-! extend, pop -/
def muExt : List D → List D → Option (List D × D)
  | ds, [.list es] => if ds.length + es.length ≤ sizeLine then some (ds ++ es, .none) else none
  | _, _ => none
theorem sql_lst {K : PySem.W.Frag} {H : Hp} {a : Addr} {xs : List V} (h : SqL K H a xs) (hz : H a = some (.lst xs)) : H a = some (.lst xs) := hz
def muPop : List D → List D → Option (List D × D)
  | ds, [] => (match ds[ds.length - 1]? with | some d => some (ds.dropLast, d) | none => none)
  | _, _ => none
def muPopAt : List D → List D → Option (List D × D)
  | ds, [.int i] => if -(2 ^ 63) ≤ i ∧ i < 2 ^ 63 then (match seqIndex? i ds.length with
    | some k => (match ds[k]? with | some d => some (ds.eraseIdx k, d) | none => none)
    | none => none) else none
  | _, _ => none
theorem Reps.dropLast {K : PySem.W.Frag} {H : Hp} {M : Addr → Prop} {ds : List D} {xs : List V} (h : Reps K H M ds xs) : Reps K H M ds.dropLast xs.dropLast := by
  rw [List.dropLast_eq_take, List.dropLast_eq_take, h.length]
  exact h.take _
theorem Reps.eraseIdx {K : PySem.W.Frag} {H : Hp} {M : Addr → Prop} {ds : List D} {xs : List V} (h : Reps K H M ds xs) (k : Nat) : Reps K H M (ds.eraseIdx k) (xs.eraseIdx k) := by
  rw [List.eraseIdx_eq_take_drop_succ, List.eraseIdx_eq_take_drop_succ]
  exact (h.take _).append (h.drop _)
theorem du_pop : DMu X "list.pop" muPop := by
  refine ⟨fun s l xs ds as us ds' r Q E h2 h3 ra ho k => ?_⟩
  unfold muPop at ho
  split at ho
  · split at ho
    · rename_i d hd
      cases ho
      cases ra
      obtain ⟨x, hx, rx⟩ := h3.get hd
      exact (show MtR X "list.pop" rPop from mt_pop).w ⟨l, xs, x, rfl, rfl, h2, by rw [h3.length]; exact hx, k _ _ h3.dropLast rx⟩
    · cases ho
  · cases ho
theorem du_popAt : DMu X "list.pop" muPopAt := by
  refine ⟨fun s l xs ds as us ds' r Q E h2 h3 ra ho k => ?_⟩
  unfold muPopAt at ho
  split at ho
  · split at ho
    · rename_i hz
      split at ho
      · rename_i j hj
        split at ho
        · rename_i d hd
          cases ho
          obtain ⟨u, rfl, r1⟩ := pair1 ra
          have e := ofS_int r1; subst e
          obtain ⟨x, hx, rx⟩ := h3.get hd
          exact (show MtR X "list.pop" rPopAt from mt_popAt).w ⟨l, xs, _, j, x, rfl, rfl, h2, hz.1, hz.2, by rw [h3.length]; exact hj, hx, k _ _ (h3.eraseIdx j) rx⟩
        · cases ho
      · cases ho
    · cases ho
  · cases ho
end
end DL
namespace DL
open PySem PySem.Spec PyProof.Rows L2

section
variable {X : Cx} {W : WX} {s s0 s1 s2 : Sg}
def extV (i : Nat) (v : EV) (ρ : Env) : Out EV := match ρ[i]?, rd v ρ with
  | some (some (.ow b ds)), some (.list es) => if ds.length + es.length ≤ sizeLine then .ok (.sh .none) (ρ.set i (some (.ow b (ds ++ es)))) else .stuck
  | _, _ => .stuck
def fExt (i : Nat) (f : Env → Out EV) : Env → Out EV := fun ρ => if isOw i ρ = true then (f ρ).bind (extV i) else .stuck
theorem de_ext {x : Str} {i : Nat} {e : Expr} {xpos apos cpos : Pos} {f : Env → Out EV} (h : DE X W e f)
    (hN : X.N[i]? = some x) (hv : Vis X.env.scope x) (hd : (x == ("__debug__" : Str)) = false := by decide) (hcd : (x == ("__classdict__" : Str)) = false := by decide)
    (hbase : attributeBase (.Name x xpos) "extend" X.env (eval (.Name x xpos) X.env) = eval (.Name x xpos) X.env := by rfl)
    (hfew : ((backTo cpos (starEach [e] X.env)).all (fun x => !x.1) && (backToKw cpos (keywordEach [] X.env)).all (fun x => x.1.isSome)
      && decide ([e].length + ([] : List Keyword).length + (if ([] : List Keyword).isEmpty then 0 else 1) < 30)) = true := by rfl)
    (hline : (apos.endLine == cpos.line) = true := by rfl) (hs : starEach [e] X.env = (false, eval e X.env) :: starEach [] X.env := by rfl) (hplain : (backTo cpos (starEach [] X.env)).any (·.1) = false := by rfl) :
    DE X W (.Call (.Attribute (.Name x xpos) "extend" apos) [e] [] cpos) (fExt i f) := by
  refine ⟨fun s Q E g => (pe_bm PySem.F.plainAttrs_list PySem.F.slot_list_extend PySem.F.type_list_extend mtr_w (pe_var hN hv hd hcd) (pa_cons (pe_w e) pa_nil hs) hbase hfew hline hs hplain).w ?_⟩
  unfold fExt at g
  split at g
  · rename_i hh
    obtain ⟨b, ds, hi⟩ := isOw_of hh
    obtain ⟨l, xs, h1, h2, h3⟩ := own_at E hi
    refine ⟨.ref l, h1, .inl ⟨rfl, xs, .of h2⟩, ?_⟩
    refine (h.run s _ E (GoalK.bind0 E g)).mono fun us H2 ⟨v, s2, hσ2, hH2, he, t2, t12, E2, ⟨r2, _⟩, g2⟩ => ?_
    clear he
    subst hH2
    have hu : s2.σ[i]? = some (some (.ref l)) := by rw [hσ2]; exact h1
    unfold extV at g2
    split at g2
    · rename_i b ds es hi2 he2
      split at g2
      · rename_i hz
        obtain ⟨l', xs', k1, k2, k3⟩ := own_at E2 hi2
        rw [hu] at k1; cases k1
        obtain ⟨a, ys, rfl, hb, rr⟩ := rd_ok E2 r2 he2
        have q1 : Reps X.K s2.H s2.M (ds ++ es) (xs' ++ ys) := k3.append rr
        obtain ⟨E', t'⟩ := mut_slot E2 t2 hi2 hu q1
        refine (show MtR X "list.extend" rExtend from mt_extend).w ⟨l, a, xs', ys, rfl, rfl, k2, hb, by rw [k3.length, rr.length]; exact hz, ?_⟩
        exact g2.fin (s2 := ⟨s2.M, s2.ρ.set i (some (.ow b (ds ++ es))), s2.σ, upd s2.H l (.lst (xs' ++ ys))⟩) hσ2 t' E' ⟨by show Rep _ _ _ _ _; simp only [Rep], trivial⟩
      · exact g2.elim
    · exact g2.elim
  · exact g.elim
/-! ### an expression as a statement -/
def dExpr (f : Env → Out EV) : Env → Out Fl := fun ρ => (f ρ).bind fun _ ρ1 => .ok .nx ρ1
theorem ds_expr {e : Expr} {f : Env → Out EV} {pos : Pos} (h : DE X W e f) (hs : swapsWith e none pos.line X.env = pure false := by rfl) : DS X W (.Expr e pos) (dExpr f) := by
  refine ⟨fun s D E g => (ps_expr (pe_w e) hs).w ?_⟩
  refine (h.run s _ E (SGoal.bind0 E g)).mono fun u H2 ⟨v, s2, hσ, hH, _, t, _, E2, ⟨r, fr⟩, g2⟩ => ?_
  subst hH
  show D.nx s.σ s2.H
  rw [← hσ]
  exact g2 s2.σ s2.M s2.H t E2
/-! ### name = another own list: it goes over -/
def dMv (i : Nat) : EV → Env → Out Fl
  | .bo j, ρ => (match ρ[j]? with
    | some (some (.ow false ds)) => (match stS i (.ow false ds) (ρ.set j none) with | some ρ' => .ok .nx ρ' | none => .stuck)
    | _ => .stuck)
  | v, ρ => dSto i v ρ
def dSetM (i : Nat) (f : Env → Out EV) : Env → Out Fl := fun ρ => (f ρ).bind (dMv i)
theorem tr_unset (E : ER X.K X.mg s) (t : Tr s0 s) {j : Nat} (hj : ∀ sv, s.ρ[j]? = some (some sv) → sv.lent = false) : Tr s0 ⟨s.M, s.ρ.set j none, s.σ, s.H⟩ where
  ext := t.ext
  mt := t.mt
  mnew := t.mnew
  mold := t.mold
  own := fun b ⟨k, sv, e1, e2, e3⟩ => t.own b ⟨k, sv, by
    have e1 : (s.ρ.set j none)[k]? = some (some sv) := e1
    by_cases hk : j = k
    · subst hk
      by_cases hl : j < s.ρ.length
      · rw [List.getElem?_set_self hl] at e1; cases e1
      · rw [List.getElem?_eq_none (by simpa using hl)] at e1; cases e1
    · rwa [List.getElem?_set_ne hk] at e1, e2, e3⟩
  lent := fun i sv e l => by
    obtain ⟨⟨sv', e1, l1⟩, e2⟩ := t.lent i sv e l
    refine ⟨⟨sv', ?_, l1⟩, e2⟩
    show (s.ρ.set j none)[i]? = _
    rw [List.getElem?_set_ne fun z => ?_]
    · exact e1
    · subst z
      rw [hj sv' e1] at l1; cases l1
  ln := by simpa using t.ln
theorem mv_ok {D : Ends} {i : Nat} {v : EV} {u : V} (E : ER X.K X.mg s2) (t : Tr s s2) (hσ : s2.σ = s.σ) (r : EVR X.K X.mg s2 v u) (fr : FreshV s.H v u) (g2 : SGoal X W s (dMv i v s2.ρ) D) : D.nx (s2.σ.set i (some u)) s2.H := by
  cases v with
  | bo j =>
    simp only [dMv] at g2
    have hu : s2.σ[j]? = some (some u) := r
    split at g2
    · rename_i ds hj
      split at g2
      · rename_i ρ' e
        obtain ⟨e1, e2, e3⟩ := stS_some e
        subst e1
        obtain ⟨l, xs, k1, k2, k3⟩ := own_at E hj
        rw [hu] at k1; cases k1
        have hown : s2.Own l := ⟨j, _, hj, rfl, hu⟩
        have E1 := er_unset E j
        have t1 := tr_unset E t (j := j) fun sv e => by rw [hj] at e; cases e; rfl
        have nown : ¬ Sg.Own ⟨s2.M, s2.ρ.set j none, s2.σ, s2.H⟩ l := fun ⟨k, sv, f1, f2, f3⟩ => by
          have f1 : (s2.ρ.set j none)[k]? = some (some sv) := f1
          have hjl : j < s2.ρ.length := (List.getElem?_eq_some_iff.mp hj).1
          by_cases hk : j = k
          · subst hk
            rw [List.getElem?_set_self hjl] at f1; cases f1
          · rw [List.getElem?_set_ne hk] at f1
            exact hk (E.inj j k _ _ l hj rfl hu f1 f2 f3)
        obtain ⟨a1, a2⟩ := er_set (s := s) (s2 := ⟨s2.M, s2.ρ.set j none, s2.σ, s2.H⟩) E1 t1 e2 e3 (sv := .ow false ds) (u := .ref l) ⟨l, xs, rfl, k2, (E.own_lst hown).1, k3⟩ (fun _ b eb => by
          cases eb
          exact ⟨nown, t.own l hown⟩) rfl
        exact g2 _ s2.M s2.H a2 a1
      · exact g2.elim
    · exact g2.elim
  | sh d => exact sto_ok E t hσ r fr g2
  | fr ds => exact sto_ok E t hσ r fr g2
  | fn x => exact sto_ok E t hσ r fr g2
  | sc ns => exact sto_ok E t hσ r fr g2
theorem ds_setM {i : Nat} {x : Str} {e : Expr} {f : Env → Out EV} {pos pos' : Pos} (h : DE X W e f) (hN : X.N.Nodup) (hi : X.N[i]? = some x) (hx : Loc X.env.scope x) (hs : swapsWith e (some (.Name x pos')) pos.line X.env = pure false)
    (hf : X.fn x = true ∨ X.env.scope.names.lookup x = some .local) : DS X W (.Assign [.Name x pos'] e pos) (dSetM i f) := by
  refine ⟨fun s D E g => (ps_set hN hi hx (pe_w e) hs hf).w ?_⟩
  refine (h.run s _ E (SGoal.bind0 E g)).mono fun u H2 ⟨v, s2, hσ, hH, _, t, _, E2, ⟨r, fr⟩, g2⟩ => ?_
  subst hH
  show D.nx (s.σ.set i (some u)) s2.H
  rw [← hσ]
  exact mv_ok E2 t hσ r fr g2
/-! ### target = data -/
def dAsg (g : D → Env → Option Env) (f : Env → Out EV) : Env → Out Fl := fun ρ => ((f ρ).bind frz).bind fun d ρ1 => match g d ρ1 with
  | some ρ2 => .ok .nx ρ2
  | none => .stuck
theorem ds_asg {tg e : Expr} {vs : List Nat} {g : D → Env → Option Env} {f : Env → Out EV} {pos : Pos} (h : DE X W e f) (hg : DG X tg vs g) (hs : swapsWithSole [tg] e pos.line X.env = pure false := by rfl) (hw : swappedStores [tg] e X.env = pure none := by rfl)
    (h1 : (assignEach [tg] X.env).map (·.2) = [assign tg X.env] := by rfl) : DS X W (.Assign [tg] e pos) (dAsg g f) := by
  refine ⟨fun s D E gg => (ps_asg (pe_w e) (pg_w X tg) hs hw h1).w ?_⟩
  refine (h.data.run s _ E (SGoal.bind0 E gg)).mono fun u H2 ⟨d, s2, hσ, hH, _, t, _, E2, r, g2⟩ => ?_
  subst hH
  rw [← hσ]
  split at g2
  · rename_i ρ2 e2
    exact hg.run s s2 d u ρ2 D.nx E2 t r e2 fun σ' M' H' t' E' _ => g2 σ' M' H' t' E'
  · exact g2.elim
/-! o[k] as a target, o an own list's name -/
def gSubL (i : Nat) (k : Int) (d : D) (ρ : Env) : Option Env := match ρ[i]? with
  | some (some (.ow b ds)) => (match ixN ds.length k with
    | some j => some (ρ.set i (some (.ow b (ds.set j d))))
    | none => none)
  | _ => none
theorem dg_subL {i : Nat} {x : Str} {k : Int} {j : Nat} {p1 p2 pos : Pos} (hN : X.N[i]? = some x) (hv : Vis X.env.scope x) (hd : (x == ("__debug__" : Str)) = false := by decide) (hcd : (x == ("__classdict__" : Str)) = false := by decide)
    (ha : ∀ v, assign (.Subscript (.Name x p1) (.Constant (.int k) j p2) pos) X.env v = (do
      let ov ← holding [v] (eval (.Name x p1) X.env)
      let iv ← holding [v, ov] (eval (.Constant (.int k) j p2) X.env)
      standAt pos
      holding [v, ov, iv] (setItem ov iv v)
      release [v, ov, iv] []) := by intro _; rfl) : DG X (.Subscript (.Name x p1) (.Constant (.int k) j p2) pos) [] (gSubL i k) := by
  refine ⟨fun s0 s d u ρ' Q E t r h kk => (pg_sub (pe_var hN hv hd hcd) pe_int set_list ha).w ?_⟩
  unfold gSubL at h
  split at h
  · rename_i b ds hi
    split at h
    · rename_i m hm
      cases h
      obtain ⟨l, xs, h1, h2, h3⟩ := own_at E hi
      refine ⟨.ref l, h1, l, xs, k, m, rfl, rfl, h2, by rw [h3.length]; exact hm, ?_⟩
      obtain ⟨E', t'⟩ := mut_slot E t hi h1 (h3.set r m)
      exact kk s.σ s.M _ t' E' .refl
    · cases h
  · cases h
end
end DL
namespace DL
open PySem PySem.Spec PyProof.Rows L2

section
variable {X : Cx} {W : WX} {s s0 s1 s2 : Sg}
/-! o[e] = value, o an own list's name -/
def subV (i : Nat) (d : D) (v : EV) (ρ : Env) : Out Fl := match v with
  | .sh (.int k) => (match gSubL i k d ρ with
    | some ρ2 => .ok .nx ρ2
    | none => .stuck)
  | _ => .stuck
def dSub (i : Nat) (fi fv : Env → Out EV) : Env → Out Fl := fun ρ => ((fv ρ).bind frz).bind fun d ρ1 => if isOw i ρ1 = true then (fi ρ1).bind (subV i d) else .stuck
theorem ds_subL {i : Nat} {x : Str} {ix e : Expr} {fi fv : Env → Out EV} {p1 tpos pos : Pos} (hv : DE X W e fv) (hi : DE X W ix fi) (hN : X.N[i]? = some x) (hvx : Vis X.env.scope x) (hd : (x == ("__debug__" : Str)) = false := by decide) (hcd : (x == ("__classdict__" : Str)) = false := by decide)
    (hs : swapsWithSole [.Subscript (.Name x p1) ix tpos] e pos.line X.env = pure false := by rfl) (hw : swappedStores [.Subscript (.Name x p1) ix tpos] e X.env = pure none := by rfl)
    (h1 : (assignEach [.Subscript (.Name x p1) ix tpos] X.env).map (·.2) = [assign (.Subscript (.Name x p1) ix tpos) X.env] := by rfl)
    (ha : ∀ v, assign (.Subscript (.Name x p1) ix tpos) X.env v = (do
      let ov ← holding [v] (eval (.Name x p1) X.env)
      let iv ← holding [v, ov] (eval ix X.env)
      standAt tpos
      holding [v, ov, iv] (setItem ov iv v)
      release [v, ov, iv] []) := by intro _; rfl) : DS X W (.Assign [.Subscript (.Name x p1) ix tpos] e pos) (dSub i fi fv) := by
  refine ⟨fun s D E gg => (ps_asg (pe_w e) (pg_sub (pe_var hN hvx hd hcd) (pe_w ix) set_list ha) hs hw h1).w ?_⟩
  refine (hv.data.run s _ E (SGoal.bind0 E gg)).mono fun u H2 ⟨d, s2, hσ, hH, _, t, _, E2, r, g2⟩ => ?_
  subst hH
  have r : Rep X.K s2.H s2.M d u := r
  split at g2
  · rename_i ho
    obtain ⟨b, ds, hi2⟩ := isOw_of ho
    obtain ⟨l, xs, h1, h2, h3⟩ := own_at E2 hi2
    rw [← hσ]
    refine ⟨.ref l, h1, ?_⟩
    refine (hi.run s2 _ E2 (SGoal.bind t g2)).mono fun y H3 ⟨v, s3, hσ3, hH3, _, t3, t23, E3, ⟨r3, _⟩, g3⟩ => ?_
    subst hH3
    unfold subV at g3
    split at g3
    · rename_i k
      have e := ofS_int (Rep.top (show Rep _ _ _ _ _ from r3)).s
      subst e
      split at g3
      · rename_i ρ2 e2
        unfold gSubL at e2
        split at e2
        · rename_i b' ds' hi3
          split at e2
          · rename_i m hm
            cases e2
            obtain ⟨l', xs', k1, k2, k3⟩ := own_at E3 hi3
            rw [hσ3, h1] at k1; cases k1
            obtain ⟨E', t'⟩ := mut_slot E3 t3 hi3 (l := l) (by rw [hσ3]; exact h1) (k3.set (Rep.tr E2 t23 r) m)
            refine ⟨l, xs', _, m, rfl, rfl, k2, by rw [k3.length]; exact hm, ?_⟩
            rw [← hσ3]
            exact g3 s3.σ s3.M _ t' E'
          · cases e2
        · cases e2
      · exact g3.elim
    · exact g3.elim
  · exact g2.elim

/-! ### a, b = x, y -/
def frB : EV → Bool
  | .fr _ => true
  | _ => false
/-- the values of a row: new lists are apart, and nobody's -/
structure REp (X : Cx) (H0 : Hp) (s : Sg) (vs : List EV) (us : List V) : Prop where
  all : Paired (fun v u => EVR X.K X.mg s v u) vs us
  new : ∀ (k : Nat) (v : EV) (a : Addr), vs[k]? = some v → frB v = true → us[k]? = some (.ref a) → H0 a = none
  apart : ∀ (k l : Nat) (v w : EV) (a : Addr), vs[k]? = some v → frB v = true → us[k]? = some (.ref a) → vs[l]? = some w → frB w = true → us[l]? = some (.ref a) → k = l
structure DEp (X : Cx) (W : WX) (e : List Expr) (f : Env → Out (List EV)) : Prop where
  run : ∀ s Q, ER X.K X.mg s → Goal X W (REp X) s (f s.ρ) Q → wA X e s.σ s.H Q
def fConsP (f : Env → Out EV) (g : Env → Out (List EV)) : Env → Out (List EV) := fun ρ => (f ρ).bind fun v ρ1 => (g ρ1).bind fun vs ρ2 => .ok (v :: vs) ρ2
theorem dep_nil : DEp X W [] fNil := ⟨fun s Q E g => pa_nil.w (show tNil s.σ s.H Q from g.fin (s2 := s) rfl (Tr.refl E) E ⟨.nil, fun k v a h => by simp at h, fun k l v w a h => by simp at h⟩)⟩
theorem evr_live (E : ER X.K X.mg s) {v : EV} {a : Addr} (r : EVR X.K X.mg s v (.ref a)) (hf : frB v = true) : ∃ o, s.H a = some o := by
  cases v with
  | fr ds => obtain ⟨b, xs, e, hh, _⟩ := r; cases e; exact ⟨_, hh⟩
  | _ => cases hf
theorem dep_cons {e : Expr} {es : List Expr} {f : Env → Out EV} {g : Env → Out (List EV)} (h : DE X W e f) (ht : DEp X W es g) (hs : starEach (e :: es) X.env = (false, eval e X.env) :: starEach es X.env := by rfl) : DEp X W (e :: es) (fConsP f g) := by
  refine ⟨fun s Q E gg => (pa_cons (pe_w e) (pa_w es) hs).w ?_⟩
  refine (h.run s _ E (GoalK.bind0 E gg)).mono fun u1 H1 ⟨v1, s1, hσ, hH, _, t1, _, E1, ⟨r1, fr1⟩, g1⟩ => ?_
  subst hH
  rw [← hσ]
  refine (ht.run s1 _ E1 (GoalK.bind t1 hσ g1)).mono fun us H2 ⟨vs, s2, hσ2, hH2, _, t2, t12, E2, r2, g2⟩ => ?_
  subst hH2
  refine g2.fin (hσ2.trans hσ) t2 E2 ⟨.cons (EVR.tr E1 t12 hσ2 r1) r2.all, fun k v a e1 e2 e3 => ?_, fun k l v w a e1 e2 e3 e4 e5 e6 => ?_⟩
  · cases k with
    | zero =>
      simp at e1 e3; subst e1; subst e3
      cases v1 with
      | fr ds => exact fr1 a rfl
      | _ => cases e2
    | succ k => exact t1.none_back (r2.new k v a (by simpa using e1) e2 (by simpa using e3))
  · have no : ∀ (m : Nat) (x : EV), frB v1 = true → u1 = .ref a → vs[m]? = some x → frB x = true → us[m]? = some (.ref a) → False := fun m x f1 f2 f3 f4 f5 => by
      subst f2
      obtain ⟨o, ho⟩ := evr_live E1 r1 f1
      have := r2.new m x a f3 f4 f5
      rw [ho] at this; cases this
    cases k with
    | zero =>
      simp at e1 e3
      cases l with
      | zero => rfl
      | succ m => exact (no m w (by rw [e1]; exact e2) e3 (by simpa using e4) e5 (by simpa using e6)).elim
    | succ m =>
      cases l with
      | zero =>
        simp at e4 e6
        exact (no m v (by rw [e4]; exact e5) e6 (by simpa using e1) e2 (by simpa using e3)).elim
      | succ n => rw [r2.apart m n v w a (by simpa using e1) e2 (by simpa using e3) (by simpa using e4) e5 (by simpa using e6)]
def stoP (i : Nat) : EV → Env → Option Env
  | .sh d, ρ => stS i (.sh d) ρ
  | .fr ds, ρ => stS i (.ow false ds) ρ
  | .fn x, ρ => stS i (.fn x) ρ
  | .bo _, _ => none
  | .sc _, _ => none
def stosP : List Nat → List EV → Env → Option Env
  | [], [], ρ => some ρ
  | i :: is, v :: vs, ρ => (match stoP i v ρ with
    | some ρ1 => stosP is vs ρ1
    | none => none)
  | _, _, _ => none
def setsP : List Nat → List V → L2.St → L2.St
  | i :: is, u :: us, σ => setsP is us (σ.set i (some u))
  | _, _, σ => σ
theorem stos_ok {s : Sg} (E0 : ER X.K X.mg s) : ∀ {is : List Nat} {vs : List EV} {us : List V} {s2 : Sg} {ρ' : Env}, ER X.K X.mg s2 → Tr s s2 → Paired (fun v u => EVR X.K X.mg s2 v u ∨ ∃ x, v = .bo x) vs us →
    (∀ (k : Nat) (v : EV) (a : Addr), vs[k]? = some v → frB v = true → us[k]? = some (.ref a) → s.H a = none) →
    (∀ (k l : Nat) (v w : EV) (a : Addr), vs[k]? = some v → frB v = true → us[k]? = some (.ref a) → vs[l]? = some w → frB w = true → us[l]? = some (.ref a) → k = l) →
    stosP is vs s2.ρ = some ρ' → ER X.K X.mg ⟨s2.M, ρ', setsP is us s2.σ, s2.H⟩ ∧ Tr s ⟨s2.M, ρ', setsP is us s2.σ, s2.H⟩
  | [], _, _, s2, ρ', E, t, .nil, _, _, h => by
    simp [stosP] at h; subst h; exact ⟨E, t⟩
  | i :: is, _, _, s2, ρ', E, t, .nil, _, _, h => by simp [stosP] at h
  | [], _, _, s2, ρ', E, t, .cons _ _, _, _, h => by simp [stosP] at h
  | i :: is, v :: vs, u :: us, s2, ρ', E, t, .cons r rr, hn, ha, h => by
    simp only [stosP] at h
    split at h
    · rename_i ρ1 e1
      -- the rest behind the store
      have go : ∀ sv : SV, sv.lent = false → SVR X.K X.mg s2 sv u → (∀ b, s2.H b ≠ none → (sv.own = true ∧ u = .ref b) → frB v = true) → stS i sv s2.ρ = some ρ1 → (sv.own = true → ∀ a, u = .ref a → ¬ s2.Own a ∧ (s.Own a ∨ s.H a = none)) → ER X.K X.mg ⟨s2.M, ρ', setsP is us (s2.σ.set i (some u)), s2.H⟩ ∧ Tr s ⟨s2.M, ρ', setsP is us (s2.σ.set i (some u)), s2.H⟩ := fun sv hl hr hfr hst hf => by
        obtain ⟨f1, f2, f3⟩ := stS_some hst
        obtain ⟨a1, a2⟩ := er_set E t f2 f3 (sv := sv) (u := u) hr hf hl
        rw [← f1] at a1 a2
        refine stos_ok E0 (s2 := ⟨s2.M, ρ1, s2.σ.set i (some u), s2.H⟩) a1 a2 ?_ (fun k w a b1 b2 b3 => hn (k + 1) w a (by simpa using b1) b2 (by simpa using b3)) (fun k l w x a b1 b2 b3 b4 b5 b6 => by
          have := ha (k + 1) (l + 1) w x a (by simpa using b1) b2 (by simpa using b3) (by simpa using b4) b5 (by simpa using b6)
          omega) h
        -- the others' values
        have key : ∀ (k : Nat) (w : EV) (z : V), vs[k]? = some w → us[k]? = some z → (EVR X.K X.mg s2 w z ∨ ∃ x, w = .bo x) → (EVR X.K X.mg ⟨s2.M, ρ1, s2.σ.set i (some u), s2.H⟩ w z ∨ ∃ x, w = .bo x) := fun k w z b1 b2 b3 => by
          rcases b3 with b3 | b3
          · cases w with
            | sh d => exact .inl b3
            | fn x => exact .inl b3
            | sc ns => exact .inl b3
            | bo x => exact .inr ⟨x, rfl⟩
            | fr ds =>
              obtain ⟨a, xs, q1, q2, q3, q4, q5⟩ := b3
              refine .inl ⟨a, xs, q1, q2, q3, fun wn => ?_, q5⟩
              obtain ⟨j, sv', c1, c2, c3⟩ := wn
              have c1 : ρ1[j]? = some (some sv') := c1
              have c3 : (s2.σ.set i (some u))[j]? = some (some (.ref a)) := c3
              rw [f1] at c1
              by_cases hj : i = j
              · subst hj
                rw [List.getElem?_set_self f2] at c1; cases c1
                rw [List.getElem?_set_self (by rw [← E.len]; exact f2)] at c3; cases c3
                have hv := hfr a (by rw [q2]; simp) ⟨c2, rfl⟩
                subst q1
                have := ha 0 (k + 1) v (.fr ds) a (by simp) hv (by simp) (by simpa using b1) rfl (by simpa using b2)
                omega
              · rw [List.getElem?_set_ne hj] at c1 c3
                exact q4 ⟨j, sv', c1, c2, c3⟩
          · exact .inr b3
        have gen : ∀ (vs : List EV) (us : List V), Paired (fun v u => EVR X.K X.mg s2 v u ∨ ∃ x, v = .bo x) vs us → (∀ (k : Nat) (w : EV) (z : V), vs[k]? = some w → us[k]? = some z → (EVR X.K X.mg s2 w z ∨ ∃ x, w = .bo x) → (EVR X.K X.mg ⟨s2.M, ρ1, s2.σ.set i (some u), s2.H⟩ w z ∨ ∃ x, w = .bo x)) → Paired (fun v z => EVR X.K X.mg ⟨s2.M, ρ1, s2.σ.set i (some u), s2.H⟩ v z ∨ ∃ x, v = .bo x) vs us := fun vs us h => by
          induction h with
          | nil => intro _; exact .nil
          | cons r t ih => exact fun kk => .cons (kk 0 _ _ rfl rfl r) (ih fun k w z a b c => kk (k + 1) w z (by simpa using a) (by simpa using b) c)
        exact gen vs us rr key
      cases v with
      | sh d =>
        rcases r with r | ⟨x, z⟩
        · exact go (.sh d) rfl r (fun b _ q => nomatch q.1) e1 (fun q => nomatch q)
        · cases z
      | fn x =>
        rcases r with r | ⟨x, z⟩
        · exact go (.fn _) rfl r (fun b _ q => nomatch q.1) e1 (fun q => nomatch q)
        · cases z
      | fr ds =>
        rcases r with r | ⟨x, z⟩
        · obtain ⟨a, xs, q1, q2, q3, q4, q5⟩ := r
          refine go (.ow false ds) rfl ⟨a, xs, q1, q2, q3, q5⟩ (fun b _ q => rfl) e1 fun _ b eb => ?_
          subst eb; cases q1
          exact ⟨q4, .inr (hn 0 (.fr ds) a (by simp) rfl (by simp))⟩
        · cases z
      | bo j => simp [stoP] at e1
      | sc ns => simp [stoP] at e1
    · cases h
theorem pair_imp {α β : Type} {R R' : α → β → Prop} (h : ∀ a b, R a b → R' a b) : ∀ {xs : List α} {ys : List β}, Paired R xs ys → Paired R' xs ys
  | _, _, .nil => .nil
  | _, _, .cons a b => .cons (h _ _ a) (pair_imp h b)
def dPar (is : List Nat) (f : Env → Out (List EV)) : Env → Out Fl := fun ρ => (f ρ).bind fun vs ρ1 => match stosP is vs ρ1 with
  | some ρ2 => .ok .nx ρ2
  | none => .stuck
theorem par_core {es : List Expr} {f : Env → Out (List EV)} {is : List Nat} (h : DEp X W es f) {D : Ends} (E : ER X.K X.mg s) (g : SGoal X W s (dPar is f s.ρ) D) : wA X es s.σ s.H fun us H1 => us.length = is.length ∧ D.nx (setsP is us s.σ) H1 := by
  refine (h.run s _ E (SGoal.bind0 E g)).mono fun us H2 ⟨vs, s2, hσ, hH, _, t, _, E2, r, g2⟩ => ?_
  subst hH
  split at g2
  · rename_i ρ2 e2
    have pr : Paired (fun v u => EVR X.K X.mg s2 v u ∨ ∃ x, v = .bo x) vs us := pair_imp (fun _ _ h => .inl h) r.all
    obtain ⟨E', t'⟩ := stos_ok E E2 t pr r.new r.apart e2
    have hl : ∀ (is : List Nat) (vs : List EV) (ρ ρ' : Env), stosP is vs ρ = some ρ' → vs.length = is.length := fun is => by
      induction is with
      | nil => intro vs ρ ρ' h; cases vs <;> simp [stosP] at h ⊢
      | cons i is ih =>
        intro vs ρ ρ' h
        cases vs with
        | nil => simp [stosP] at h
        | cons v vs =>
          simp only [stosP] at h
          split at h
          · simp [ih _ _ _ h]
          · cases h
    refine ⟨by rw [← r.all.length]; exact hl _ _ _ _ e2, ?_⟩
    rw [← hσ]
    exact g2 _ s2.M s2.H t' E'
  · exact g2.elim
theorem ds_par2 {i j : Nat} {x y : Str} {a b : Expr} {f : Env → Out (List EV)} {px py pt pt2 pos : Pos} {kt k2 : Nat} (C : DC X W) (h : DEp X W [a, b] f) (hi : X.N[i]? = some x) (hj : X.N[j]? = some y) (hij : i ≠ j)
    (hx : X.env.scope.names.lookup x = some .local) (hy : X.env.scope.names.lookup y = some .local) (hw : swappedStores [.Tuple [.Name x px, .Name y py] kt pt] (.Tuple [a, b] k2 pt2) X.env = pure (some [x, y]))
    (hs : swapsWithSole [.Tuple [.Name x px, .Name y py] kt pt] (.Tuple [a, b] k2 pt2) pos.line X.env = pure false := by rfl) : DS X W (.Assign [.Tuple [.Name x px, .Name y py] kt pt] (.Tuple [a, b] k2 pt2) pos) (dPar [i, j] f) := by
  refine ⟨fun s D E g => (ps_par C.calm C.nd hi hj hij hx hy (pa_w _) hw hs).w ?_⟩
  refine (par_core h E g).mono fun us H1 ⟨hl, q⟩ => ?_
  match us, hl with
  | [u, w], _ => exact ⟨u, w, rfl, q⟩
theorem ds_par3 {i j l : Nat} {x y z : Str} {a b c : Expr} {f : Env → Out (List EV)} {px py pz pt pt2 pos : Pos} {kt k2 : Nat} (C : DC X W) (h : DEp X W [a, b, c] f) (hi : X.N[i]? = some x) (hj : X.N[j]? = some y) (hl : X.N[l]? = some z) (hij : i ≠ j) (hil : i ≠ l) (hjl : j ≠ l)
    (hx : X.env.scope.names.lookup x = some .local) (hy : X.env.scope.names.lookup y = some .local) (hz : X.env.scope.names.lookup z = some .local) (hw : swappedStores [.Tuple [.Name x px, .Name y py, .Name z pz] kt pt] (.Tuple [a, b, c] k2 pt2) X.env = pure (some [x, y, z]))
    (hs : swapsWithSole [.Tuple [.Name x px, .Name y py, .Name z pz] kt pt] (.Tuple [a, b, c] k2 pt2) pos.line X.env = pure false := by rfl) : DS X W (.Assign [.Tuple [.Name x px, .Name y py, .Name z pz] kt pt] (.Tuple [a, b, c] k2 pt2) pos) (dPar [i, j, l] f) := by
  refine ⟨fun s D E g => (ps_par3 C.calm C.nd hi hj hl hij hil hjl hx hy hz (pa_w _) hw hs).w ?_⟩
  refine (par_core h E g).mono fun us H1 ⟨hl, q⟩ => ?_
  match us, hl with
  | [u, w, r], _ => exact ⟨u, w, r, rfl, q⟩
end
end DL
namespace DL
open PySem PySem.Spec PyProof.Rows L2

/-! ### what an iterator draws from -/
inductive Src where
  | lst (a : Addr)
  | tup (a : Addr)
  | txt (x : Str) (k : Tok)
def Src.val : Src → Value
  | .lst a => .ref a
  | .tup a => .ref a
  | .txt x k => .str x k
def Src.cells : Src → List Addr
  | .lst a => [a]
  | .tup a => [a]
  | .txt _ _ => []
def Src.Itr (it : Addr) : Src → Nat → Heap → Prop
  | .lst a, i, h => h.IsListIter it a i
  | .tup a, i, h => h.IsTupleIter it a i
  | .txt x k, i, h => h.IsStrIter it (strIterType x) x k i
def Src.Of (K : PySem.W.Frag) (H : Hp) : Src → List V → Prop
  | .lst a, xs => SqL K H a xs
  | .tup a, xs => SqT K H a xs
  | .txt x _, xs => xs = x.cps.toList.map fun c => V.str ⟨#[c]⟩
def Src.frame {src : Src} {it : Addr} {i : Nat} {h h' : Heap} (t : src.Itr it i h) (k : ∀ o, h.get? it = some o → h'.get? it = some o) : src.Itr it i h' := by
  cases src with
  | lst a => obtain ⟨o, e, r⟩ := t; exact ⟨o, k o e, r⟩
  | tup a => obtain ⟨o, e, r⟩ := t; exact ⟨o, k o e, r⟩
  | txt x y => obtain ⟨o, e, r⟩ := t; exact ⟨o, k o e, r⟩
theorem Src.live {src : Src} {it : Addr} {i : Nat} {h : Heap} (t : src.Itr it i h) : ∃ o, h.get? it = some o ∧ ∀ v, o.data ≠ .cell v := by
  cases src with
  | lst a => obtain ⟨o, e, _, r⟩ := t; exact ⟨o, e, fun v z => by rw [r] at z; cases z⟩
  | tup a => obtain ⟨o, e, _, r⟩ := t; exact ⟨o, e, fun v z => by rw [r] at z; cases z⟩
  | txt x y => obtain ⟨o, e, _, r⟩ := t; exact ⟨o, e, fun v z => by rw [r] at z; cases z⟩
section
variable {X : Cx} {W : WX} {pins : List (Addr × Obj)} {σ : L2.St} {H : Hp} {st : Shared}
theorem Src.inj (I : Inv X pins σ H st) {src : Src} {xs ys : List V} (h : src.Of X.K H xs) (h' : src.Of X.K H ys) : xs = ys := by
  cases src with
  | lst a => exact I.list_inj h h'
  | tup a => exact I.tuple_inj h h'
  | txt x k => exact Eq.trans (show xs = _ from h) (show ys = _ from h').symm
theorem Src.draws (hc : X.calm = true) (I : Inv X pins σ H st) {src : Src} {xs : List V} {it : Addr} {i : Nat} (h : src.Of X.K H xs) (t : src.Itr it i st.heap) (hb : ∀ b ∈ src.cells, b < it) :
    ∃ (P : Nat → Value → Prop) (S : Nat → Heap → Prop), Draws X.prog X.w X.A.in1 it (it :: src.cells) xs.length P S ∧ S i st.heap ∧ (∀ j h, S j h → src.Itr it j h) ∧ ∀ j v, P j v → ∃ x, xs[j]? = some x ∧ RelV x v := by
  have hh : X.A.in1.handled = none := I.ok.hd hc
  cases src with
  | lst a =>
    obtain ⟨its, rv, pl, _⟩ := I.list (show SqL X.K H a xs from h)
    have hne : a ≠ it := Nat.ne_of_lt (hb a (by simp [Src.cells]))
    have hl : its.toArray.size = xs.length := by rw [List.size_toArray, rv.length]
    have D := Draws.list (prog := X.prog) (w := X.w) hh it a hne its.toArray
    rw [hl] at D
    exact ⟨_, _, D, ⟨t, pl.isList⟩, fun j h q => q.1, fun j v e => vals_get' rv (by simpa using e)⟩
  | tup a =>
    obtain ⟨its, rv, pl, _⟩ := I.tuple (show SqT X.K H a xs from h)
    have hne : a ≠ it := Nat.ne_of_lt (hb a (by simp [Src.cells]))
    have hl : its.toArray.size = xs.length := by rw [List.size_toArray, rv.length]
    have D := Draws.tuple (prog := X.prog) (w := X.w) hh it a hne its.toArray
    rw [hl] at D
    exact ⟨_, _, D, ⟨t, pl⟩, fun j h q => q.1, fun j v e => vals_get' rv (by simpa using e)⟩
  | txt x k =>
    have h : xs = x.cps.toList.map fun c => V.str ⟨#[c]⟩ := h
    have hl : x.cps.size = xs.length := by rw [h]; simp
    have D := Draws.text (prog := X.prog) (w := X.w) hh it x k
    rw [hl] at D
    refine ⟨_, _, D, t, fun j h q => q, fun j v ⟨c, u, e1, e2⟩ => ⟨.str ⟨#[c]⟩, ?_, u, e2⟩⟩
    rw [h, List.getElem?_map, Array.getElem?_toList, e1]; rfl
end
/-- iter(v) -/
theorem Src.begins {X : Cx} {pins : List (Addr × Obj)} {σ : L2.St} {H : Hp} {st : Shared} (I : Inv X pins σ H st) {src : Src} {xs : List V} (h : src.Of X.K H xs) :
    ∃ (o : Obj) (Hc : Heap → Prop), Begins src.val o Hc ∧ Hc st.heap ∧ (∀ h it, h.get? it = some o → src.Itr it 0 h) ∧ ∀ b ∈ src.cells, b < st.heap.objs.size := by
  cases src with
  | lst a =>
    obtain ⟨its, rv, pl, _⟩ := I.list (show SqL X.K H a xs from h)
    exact ⟨_, _, begins_list a its.toArray, pl.isList, fun h it e => ⟨_, e, rfl, rfl⟩, fun b hb => by
      have : b = a := by simpa [Src.cells] using hb
      rw [this]; exact pl.lt⟩
  | tup a =>
    obtain ⟨its, rv, pl, _⟩ := I.tuple (show SqT X.K H a xs from h)
    exact ⟨_, _, begins_tuple a its.toArray, pl, fun h it e => ⟨_, e, rfl, rfl⟩, fun b hb => by
      have : b = a := by simpa [Src.cells] using hb
      obtain ⟨o, e, _⟩ := pl
      rw [this]; exact Heap.lt_size e⟩
  | txt x k =>
    exact ⟨_, _, begins_text x k, trivial, fun h it e => ⟨_, e, rfl, rfl⟩, fun b hb => by simp [Src.cells] at hb⟩

/-! ### enumerate(e) -/
set_option maxHeartbeats 1000000 in
theorem meets_enum1 {v : Value} {o : Obj} {Hc : Heap → Prop} (B : Begins v o Hc) :
    Meets (Builtin.«enumerate.__new__» ⟨[.type "enumerate", v], []⟩) (fun _ R s => Hc s.heap ∧
      R (.ok (.ret (.ref (s.heap.push o).objs.size))) { s with heap := (s.heap.push o).push { cls := .type "enumerate", data := .fields #[.none, .bool false, .ref s.heap.objs.size, rawInt 0, .none, .none] } }) := by
  refine .of_wp fun prog w A R st h => ?_
  obtain ⟨hp, gs, dr, tk, os⟩ := st
  obtain ⟨h1, h2⟩ := h
  have hsub := sub_enumerate
  have it1 : ∀ {A' : Around} {E : Value → Shared → Prop} {Q : Value → Shared → Prop}, Q (.ref hp.objs.size) ⟨hp.push o, gs, dr, tk, os⟩ → wpAny (model prog w) A' (pyIter v) Q E ⟨hp, gs, dr, tk, os⟩ := fun q =>
    B.iter prog w _ _ ⟨hp, gs, dr, tk, os⟩ _ h1 q
  wp_walk using it1
  refine wpAny_stack_any fun fr => wpAny_pure ?_
  split
  · rename_i c _ _ _ _ _
    cases (c == Value.type "enumerate") <;> (wp_walk using it1; exact ⟨_, rfl, h2⟩)
  · wp_walk using it1
    exact ⟨_, rfl, h2⟩
theorem enum_start {prog : Program} {w : World} {A : Around} {E : Value → Shared → Prop} {st : Shared} {v : Value} {o : Obj} {Hc : Heap → Prop} {Q : Value → Shared → Prop} (B : Begins v o Hc) (h1 : Hc st.heap)
    (h : ∀ h', IsEnum h' (st.heap.objs.size + 1) st.heap.objs.size 0 .none → h'.get? st.heap.objs.size = some o → (∀ b u, st.heap.get? b = some u → h'.get? b = some u) → Q (.ref (st.heap.objs.size + 1)) { st with heap := h' }) :
    wpAny (model prog w) A (call (.type "enumerate") [v]) Q E st := by
  refine callType_new F.called_enumerate (by decide) (F.typeCall_enumerate_1 _) (F.newCall_enumerate_1 _) (fun obj => F.args_object_init_2 obj _) F.entry_enumerate_new (meets_enum1 B) ⟨h1, ?_⟩
  have sz : (st.heap.push o).objs.size = st.heap.objs.size + 1 := Heap.size_push ..
  have at1 : IsEnum ((st.heap.push o).push { cls := .type "enumerate", data := .fields #[.none, .bool false, .ref st.heap.objs.size, rawInt 0, .none, .none] }) (st.heap.objs.size + 1) st.heap.objs.size 0 .none := by
    rw [← sz]; exact Heap.get?_push_size (st.heap.push o) rfl
  refine ⟨⟨_, by rw [sz]; exact at1, rfl⟩, ?_⟩
  rw [sz]
  exact h _ at1 (Heap.get?_push_of_some _ (Heap.get?_push_size _ B.free)) fun b u x => Heap.get?_push_of_some _ (Heap.get?_push_of_some _ x)
/-- each item with its place, in a new pair -/
def ItE (K : PySem.W.Frag) (src : Src) : It :=
  ⟨fun i H => ∃ (xs : List V) (x : V), src.Of K H xs ∧ xs[i]? = some x, fun i H v H' => ∃ T x, v = .ref T ∧ H T = none ∧ H' = upd H T (.tup [.int (i : Nat), x]) ∧ ∀ xs, src.Of K H xs → xs[i]? = some x, fun i H => ∃ xs : List V, src.Of K H xs ∧ xs.length = i⟩
theorem turn_enumS {P : Program} {w : World} {K : PySem.W.Frag} {elts : List Expr} {kk : Nat} {tpos : Pos} {src : Src} {N : Addr} (hN : ∀ b ∈ src.cells, b < N) :
    Turn P w K (.Tuple elts kk tpos) (ItE K src) [N + 1, N] (N + 1) (fun i h => (∃ old, IsEnum h (N + 1) N ((i : Nat) : Int) old) ∧ src.Itr N i h) where
  mem := by simp
  obj := fun i h ⟨⟨old, he⟩, hi⟩ b hb => by
    rcases (by simpa using hb : b = N + 1 ∨ b = N) with z | z
    · rw [z]; exact ⟨_, he, fun v q => nomatch q⟩
    · rw [z]; exact Src.live hi
  keep := fun i h h' ⟨⟨old, he⟩, hi⟩ k => ⟨⟨old, k _ (by simp) _ he⟩, Src.frame hi fun o q => k N (by simp) o q⟩
  item := by
    intro X hP hw hK hc i pins s σ H E I hf ⟨⟨old, he⟩, hit⟩ ⟨xs, x, hq, hx⟩
    subst hP hw hK
    have nid : N + 1 ≠ N := Nat.succ_ne_self N
    obtain ⟨Pv, S, Dr, hs, hS, hPv⟩ := Src.draws hc I hq hit hN
    have hlt : i < xs.length := (List.getElem?_eq_some_iff.mp hx).1
    have hel : N + 1 < s.heap.objs.size := Heap.lt_size he
    have nin : N + 1 ∉ N :: src.cells := fun z => by
      rcases List.mem_cons.mp z with z | z
      · exact nid z
      · exact absurd (hN _ z) (Nat.not_lt.mpr (Nat.le_succ N))
    refine wpAny_pyNext_enum_itemD Dr he hs hlt nid nin fun u h' tk pu ho hs' hT hsz hk => ?_
    obtain ⟨x', hx', ru⟩ := hPv i u pu
    rw [hx] at hx'; cases hx'
    refine ⟨_, rfl, wpAny_letOwnedTupleGo_enum (s := { s with heap := h', toks := tk + 1 }) ho fun h2 he2 sb => ?_⟩
    have hT2 : h2.get? s.heap.objs.size = some { cls := .type "tuple", data := .seq #[.int i tk, u] } := (sb.2 _ (Nat.ne_of_gt hel)).trans hT
    have new : ObjOk X.prog X.w (upd H s.heap.objs.size (.tup [.int (i : Nat), x])) h2 s.heap.objs.size (.tup [.int (i : Nat), x]) :=
      ⟨by show 2 ≤ sizeLine; decide, [.int i tk, u], .cons ⟨_, rfl⟩ (.cons ru .nil), ⟨_, hT2, rfl, _, rfl⟩⟩
    refine ⟨.ref s.heap.objs.size, _, I.turnedNew (t' := tk + 1) (ch := [N + 1, N]) (fun b ob hb q => (sb.2 b (fun z => hb (by simp [z]))).trans (hk b ob (fun z => hb (by simp [z])) (fun z => hb (by simp [z])) q)) hf (Nat.le_refl _) new, rfl,
      ⟨_, x, rfl, I.hok.fresh (Nat.le_refl _), rfl, fun ys hy => by rw [Src.inj I hy hq]; exact hx⟩, ⟨⟨u, ?_⟩, Src.frame (hS _ _ hs') fun o q => (sb.2 N (Ne.symm nid)).trans q⟩, fun b hb => ?_⟩
    · rw [show ((i + 1 : Nat) : Int) = (i : Int) + 1 by omega]; exact he2
    · have lt : b < s.heap.objs.size := by
        rcases (by simpa using hb : b = N + 1 ∨ b = N) with z | z
        · rw [z]; exact hel
        · rw [z]; exact Nat.lt_of_succ_lt hel
      rw [upd_ne (Nat.ne_of_lt lt)]
      exact (hf b hb).1
  done := by
    intro X hP hw hK hc i pins s σ H E I hf ⟨⟨old, he⟩, hit⟩ ⟨xs, hq, hx⟩
    subst hP hw hK
    subst hx
    obtain ⟨Pv, S, Dr, hs, hS, hPv⟩ := Src.draws hc I hq hit hN
    obtain ⟨f0, f1, f2, f3, f4, f5⟩ := hf N (by simp)
    exact wpAny_pyNext_enum_endD Dr he hs fun h' eb => ⟨rfl, I.turned (t' := s.toks) (fun b o hb q => eb b o hb q) f0 f1 f3 f4 f5⟩
  self := fun A i s Q E ⟨⟨_, he⟩, _⟩ h => wpAny_pyIter_enum he h
/-- the source of a value -/
def srcB (K : PySem.W.Frag) (H : Hp) (u : V) (src : Src) (xs : List V) : Prop := (∀ v, RelV u v → (match src with | .txt x _ => ∃ k, v = .str x k | _ => v = src.val)) ∧ src.Of K H xs
def iEnumS (K : PySem.W.Frag) (ta : TA) : TI := fun σ H R => ta σ H fun vs H1 =>
  (∃ a xs, vs = [.ref a] ∧ SqL K H1 a xs ∧ R (ItE K (.lst a)) H1) ∨ (∃ a xs, vs = [.ref a] ∧ SqT K H1 a xs ∧ R (ItE K (.tup a)) H1) ∨ (∃ x, vs = [.str x] ∧ ∀ k, R (ItE K (.txt x k)) H1)
theorem pi_enumS {X : Cx} {e : Expr} {ta : TA} {p pos tpos : Pos} {elts : List Expr} {kk : Nat} (hg : Gl X "enumerate") (hm : X.mg "enumerate" = none) (ha : PA X [e] ta) (hs : starEach [e] X.env = [(false, eval e X.env)] := by rfl) :
    PI X (.Tuple elts kk tpos) (.Call (.Name "enumerate" p) [e] [] pos) (iEnumS X.K ta) := by
  refine ⟨fun pins s σ H R I h => ?_⟩
  refine Call_ (ld_blt I hg hm boot_enumerate (PyProof.Rows.callWith_type1 (thn (ha.run pos pins s σ H _ I h) fun us s1 ⟨vs, H1, I1, r1, q1⟩ => ?_) hs rfl))
  have core : ∀ (src : Src) (xs : List V), us = [src.val] → src.Of X.K H1 xs → R (ItE X.K src) H1 → wpAny (model X.prog X.w) X.A (call (.type "enumerate") us) (fun v s2 => wpAny (model X.prog X.w) X.A (pyIter v) (PIE X pins σ (.Tuple elts kk tpos) R) X.xe s2) X.xe s1 := fun src xs eu ho q => by
    subst eu
    obtain ⟨o, Hc, B, hb, hi, hcl⟩ := Src.begins I1 ho
    refine enum_start B hb fun h' he h2 hk => wpAny_pyIter_enum he ?_
    have I2 : Inv X pins σ H1 { s1 with heap := h' } := I1.kept (t' := s1.toks) hk
    refine ⟨s1.heap.objs.size + 1, [s1.heap.objs.size + 1, s1.heap.objs.size], _, _, H1, rfl, I2, turn_enumS (src := src) (N := s1.heap.objs.size) hcl, ⟨⟨.none, he⟩, hi _ _ h2⟩, fun b hb => ?_, q⟩
    have le : s1.heap.objs.size ≤ b := by
      rcases (by simpa using hb : b = s1.heap.objs.size + 1 ∨ b = s1.heap.objs.size) with z | z <;> (rw [z]; simp)
    exact I1.fpOk le (I1.hok.fresh le)
  rcases q1 with ⟨a, xs, ex, hq, q⟩ | ⟨a, xs, ex, hq, q⟩ | ⟨x, ex, q⟩
  · subst ex
    exact core (.lst a) xs (Vals.ref1 r1) hq q
  · subst ex
    exact core (.tup a) xs (Vals.ref1 r1) hq q
  · subst ex
    obtain ⟨u, eu, k, rfl⟩ := vals1 r1
    exact core (.txt x k) _ eu rfl (q k)

section
variable {X : Cx} {W : WX} {s s0 s1 : Sg}
/-- the source stands, while the loop's list is as it was -/
def SrcW (X : Cx) (s : Sg) (src : Src) (ds : List D) (ok : Env → Bool) : Prop := ∀ s', Tr s s' → ER X.K X.mg s' → ok s'.ρ = true → ∃ xs, src.Of X.K s'.H xs ∧ Reps X.K s'.H s'.M ds xs
def enumD (ds : List D) : List D := ds.mapIdx fun i d => .tuple [.int (i : Nat), d]
/-- a new pair -/
theorem new_pair (E : ER X.K X.mg s) {T : Addr} (hT : s.H T = none) {ds : List D} {xs : List V} (r : Reps X.K s.H s.M ds xs) : Tr s ⟨s.M, s.ρ, s.σ, upd s.H T (.tup xs)⟩ ∧ ER X.K X.mg ⟨s.M, s.ρ, s.σ, upd s.H T (.tup xs)⟩ ∧ Rep X.K (upd s.H T (.tup xs)) s.M (.tuple ds) (.ref T) := by
  have h1 : ∀ b, s.M b → s.M b ∨ b = T := fun b h => .inl h
  have h2 : ∀ b, s.M b → s.M b := fun b h => h
  refine ⟨tr_upd E (Tr.refl E) hT h1 h2, er_upd E hT h1 h2, ?_⟩
  simp only [Rep]
  exact ⟨T, xs, rfl, .inl (.inl upd_same), reps_upd hT h1 r⟩
theorem walk_enum {src : Src} {ds : List D} {ok : Env → Bool} (h : SrcW X s src ds ok) : Walk X s (enumD ds) ok (ItE X.K src) where
  go := fun s' i d t E' hk e => by
    obtain ⟨xs, h1, h2⟩ := h s' t E' hk
    unfold enumD at e
    rw [List.getElem?_mapIdx] at e
    cases q : ds[i]? with
    | none => rw [q] at e; cases e
    | some d0 =>
      obtain ⟨x, hx, _⟩ := h2.get q
      exact ⟨xs, x, h1, hx⟩
  yld := fun s' i d v H2 t E' hk e ⟨T, x, ev, hT, eH, hx⟩ => by
    obtain ⟨xs, h1, h2⟩ := h s' t E' hk
    subst ev; subst eH
    unfold enumD at e
    rw [List.getElem?_mapIdx] at e
    cases q : ds[i]? with
    | none => rw [q] at e; cases e
    | some d0 =>
      rw [q] at e; cases e
      obtain ⟨y, hy, ry⟩ := h2.get q
      have := hx xs h1
      rw [hy] at this; cases this
      obtain ⟨a1, a2, a3⟩ := new_pair E' hT (ds := [.int (i : Nat), d0]) (xs := [.int (i : Nat), x]) (reps_cons rep_int (reps_cons ry reps_nil))
      exact ⟨s'.M, a1, a2, a3⟩
  stop := fun s' t E' hk => by
    obtain ⟨xs, h1, h2⟩ := h s' t E' hk
    exact ⟨xs, h1, by rw [h2.length]; unfold enumD; rw [List.length_mapIdx]⟩
/-! the sources of a value -/
theorem srcw_lst (E : ER X.K X.mg s) {a : Addr} {xs : List V} {ds : List D} (hL : ∀ s', Tr s s' → ER X.K X.mg s' → SqL X.K s'.H a xs) (r : Reps X.K s.H s.M ds xs) : SrcW X s (.lst a) ds (fun _ => true) := fun s' t E' _ => ⟨xs, hL s' t E', Reps.tr E t r⟩
theorem srcw_tup (E : ER X.K X.mg s) {a : Addr} {xs : List V} {ds : List D} (hT : SqT X.K s.H a xs) (r : Reps X.K s.H s.M ds xs) : SrcW X s (.tup a) ds (fun _ => true) := fun s' t E' _ => ⟨xs, hT.imp (fun z => move_t E t a xs z) id, Reps.tr E t r⟩
theorem srcw_txt {x : Str} {k : Tok} : SrcW X s (.txt x k) (x.cps.toList.map sign) (fun _ => true) := fun s' t E' _ => ⟨_, rfl, reps_signs _⟩
theorem srcw_own {i : Nat} {b : Bool} {ds : List D} {a : Addr} (hi : s.ρ[i]? = some (some (.ow b ds))) (hu : s.σ[i]? = some (some (.ref a))) (E : ER X.K X.mg s) : SrcW X ⟨s.M, (Its.mk ds (some (i, b, ds))).grab s.ρ, s.σ, s.H⟩ (.lst a) ds (Its.mk ds (some (i, b, ds))).ok := fun s' t E' hk => by
  have hlt : i < s.ρ.length := (List.getElem?_eq_some_iff.mp hi).1
  obtain ⟨_, e2⟩ := t.lent i (.ow true ds) (List.getElem?_set_self hlt) rfl
  have e2 : s'.σ[i]? = s.σ[i]? := e2
  unfold Its.ok at hk
  simp only at hk
  split at hk
  · rename_i ds' hi2
    have hd := sameL_eq _ _ hk
    subst hd
    obtain ⟨u, k1, a', xs, k2, k3, k4, k5⟩ := E'.slot i _ hi2
    rw [e2, hu] at k1; cases k1; cases k2
    exact ⟨xs, .of k3, k5⟩
  · cases hk
/-- what a value is walked by: its items; or nothing -/
theorem src_of {v : EV} {u : V} {it : Its} (E : ER X.K X.mg s) (r : EVR X.K X.mg s v u) (e : itemsOf v s.ρ = some it) : it.At s.ρ ∧ ((∃ a, u = .ref a ∧ (∃ xs, SqL X.K s.H a xs) ∧ SrcW X ⟨s.M, it.grab s.ρ, s.σ, s.H⟩ (.lst a) it.ds it.ok) ∨ (∃ a, u = .ref a ∧ (∃ xs, SqT X.K s.H a xs) ∧ SrcW X ⟨s.M, it.grab s.ρ, s.σ, s.H⟩ (.tup a) it.ds it.ok) ∨ ∃ x, u = .str x ∧ ∀ k, SrcW X ⟨s.M, it.grab s.ρ, s.σ, s.H⟩ (.txt x k) it.ds it.ok) := by
  cases v with
  | bo i =>
    have hu : s.σ[i]? = some (some u) := r
    simp only [itemsOf] at e
    split at e
    · rename_i b ds hi
      cases e
      obtain ⟨l, xs, h1, h2, h3⟩ := own_at E hi
      rw [hu] at h1; cases h1
      exact ⟨fun j c es hc => by cases hc; exact hi, .inl ⟨l, rfl, ⟨xs, .of h2⟩, srcw_own hi hu E⟩⟩
    · cases e
  | fn x => cases e
  | sc ns =>
    cases e
    obtain ⟨a, rfl, hq⟩ := ScR.sql r
    refine ⟨fun _ _ _ z => (nomatch z), .inl ⟨a, rfl, ⟨_, hq⟩, srcw_lst E (fun s' t' E' => ?_) (reps_ints ns)⟩⟩
    obtain ⟨a', e', hq'⟩ := ScR.sql (ScR.tr E t' r)
    cases e'; exact hq'
  | fr ds =>
    cases e
    obtain ⟨a, xs, rfl, hh, hm, hn, rr⟩ := r
    exact ⟨fun _ _ _ z => (nomatch z), .inl ⟨a, rfl, ⟨xs, .of hh⟩, srcw_lst E (fun s' t' E' => .of (t'.ext a _ hh hn)) rr⟩⟩
  | sh d =>
    cases d with
    | list ds =>
      cases e
      have r : Rep X.K s.H s.M (.list ds) u := r
      simp only [Rep] at r
      obtain ⟨a, xs, rfl, hh, hm, rr⟩ := r
      exact ⟨fun _ _ _ z => (nomatch z), .inl ⟨a, rfl, ⟨xs, .of hh⟩, srcw_lst E (fun s' t' E' => .of (move_l E t' a xs hh hm).1) rr⟩⟩
    | tuple ds =>
      cases e
      have r : Rep X.K s.H s.M (.tuple ds) u := r
      simp only [Rep] at r
      obtain ⟨a, xs, rfl, hh, rr⟩ := r
      exact ⟨fun _ _ _ z => (nomatch z), .inr (.inl ⟨a, rfl, ⟨xs, hh⟩, srcw_tup E hh rr⟩)⟩
    | str x =>
      cases e
      have r : Rep X.K s.H s.M (.str x) u := r
      simp only [Rep] at r
      obtain ⟨rfl, _⟩ := r
      exact ⟨fun _ _ _ z => (nomatch z), .inr (.inr ⟨x, rfl, fun k => srcw_txt⟩)⟩
    | none => cases e
    | bool b => cases e
    | int i => cases e
    | dict kvs => cases e
def enumV (vs : List EV) (ρ : Env) : Out Its := match vs with
  | [v] => (match itemsOf v ρ with
    | some it => .ok ⟨enumD it.ds, it.chk⟩ ρ
    | none => .stuck)
  | _ => .stuck
end
end DL
namespace DL
open PySem PySem.Spec PyProof.Rows L2

section
variable {X : Cx} {W : WX} {s s0 s1 : Sg}
theorem di_enum {elts : List Expr} {kk : Nat} {tpos : Pos} {e : Expr} {p pos : Pos} {f : Env → Out (List EV)} (hg : Gl X "enumerate") (hm : X.mg "enumerate" = none) (ha : DEs X W [e] f) (hs : starEach [e] X.env = [(false, eval e X.env)] := by rfl) :
    DI X W (.Tuple elts kk tpos) (.Call (.Name "enumerate" p) [e] [] pos) (fun ρ => (f ρ).bind enumV) := by
  refine ⟨fun s R E g => (pi_enumS hg hm (pa_w _) hs).w ?_⟩
  refine (ha.run s _ E (GoalK.bind0 E g)).mono fun us H2 ⟨vs, s2, hσ, hH, he, t, _, E2, r, g2⟩ => ?_
  clear he
  subst hH
  unfold enumV at g2
  split at g2
  · rename_i v
    split at g2
    · rename_i it hit
      obtain ⟨u, rfl, ru⟩ := pair1 r
      obtain ⟨hat, hsrc⟩ := src_of E2 ru hit
      rcases hsrc with ⟨a, rfl, ⟨xs, hq⟩, sw⟩ | ⟨a, rfl, ⟨xs, hq⟩, sw⟩ | ⟨x, rfl, sw⟩
      · exact .inl ⟨a, xs, rfl, hq, g2.fin hσ t E2 ⟨hat, walk_enum sw⟩⟩
      · exact .inr (.inl ⟨a, xs, rfl, hq, g2.fin hσ t E2 ⟨hat, walk_enum sw⟩⟩)
      · exact .inr (.inr ⟨x, rfl, fun k => g2.fin hσ t E2 ⟨hat, walk_enum (sw k)⟩⟩)
    · exact g2.elim
  · exact g2.elim
end
/-! ### zip(e, e2) -/
def ItZ (K : PySem.W.Frag) (s1 s2 : Src) : It :=
  ⟨fun i H => ∃ (xs ys : List V) (x y : V), s1.Of K H xs ∧ s2.Of K H ys ∧ xs[i]? = some x ∧ ys[i]? = some y,
    fun i H v H' => ∃ T x y, v = .ref T ∧ H T = none ∧ H' = upd H T (.tup [x, y]) ∧ (∀ xs, s1.Of K H xs → xs[i]? = some x) ∧ ∀ ys, s2.Of K H ys → ys[i]? = some y,
    fun i H => ∃ xs ys : List V, s1.Of K H xs ∧ s2.Of K H ys ∧ min xs.length ys.length = i⟩
theorem turn_zipS {P : Program} {w : World} {K : PySem.W.Frag} {elts : List Expr} {kk : Nat} {tpos : Pos} {a b : Src} {N : Addr} (ha : ∀ c ∈ a.cells, c < N) (hb : ∀ c ∈ b.cells, c < N) :
    Turn P w K (.Tuple elts kk tpos) (ItZ K a b) [N + 4, N + 2, N + 3, N, N + 1] (N + 4) (fun i h => IsZip h (N + 4) (N + 2) (N + 3) .none ∧ IsTupOf2 h (N + 2) (.ref N) (.ref (N + 1)) ∧ (∃ x y, IsTupOf2 h (N + 3) x y) ∧ a.Itr N i h ∧ b.Itr (N + 1) i h) where
  mem := by simp
  obj := fun i h ⟨hz, hT, ⟨x, y, hO⟩, h1, h2⟩ c hc => by
    rcases (by simpa using hc : c = N + 4 ∨ c = N + 2 ∨ c = N + 3 ∨ c = N ∨ c = N + 1) with q | q | q | q | q <;> rw [q]
    · exact ⟨_, hz, fun v q => nomatch q⟩
    · exact ⟨_, hT, fun v q => nomatch q⟩
    · exact ⟨_, hO, fun v q => nomatch q⟩
    · exact Src.live h1
    · exact Src.live h2
  keep := fun i h h' ⟨hz, hT, ⟨x, y, hO⟩, h1, h2⟩ k => ⟨k _ (by simp) _ hz, k _ (by simp) _ hT, ⟨x, y, k _ (by simp) _ hO⟩, Src.frame h1 fun o q => k N (by simp) o q, Src.frame h2 fun o q => k (N + 1) (by simp) o q⟩
  item := by
    intro X hP hw hK hc i pins s σ H E I hf ⟨hz, hT, ⟨x0, y0, hO⟩, h1, h2⟩ ⟨xs, ys, x, y, hq1, hq2, hx, hy⟩
    subst hP hw hK
    obtain ⟨P1, S1, D1, st1, hS1, hP1⟩ := Src.draws hc I hq1 h1 ha
    obtain ⟨P2, S2, D2, st2, hS2, hP2⟩ := Src.draws hc I hq2 h2 (fun c q => Nat.lt_succ_of_lt (hb c q))
    have sep := zip_sep2 (N := N) ha hb
    have hzl : N + 4 < s.heap.objs.size := Heap.lt_size hz
    have l1 : i < xs.length := (List.getElem?_eq_some_iff.mp hx).1
    have l2 : i < ys.length := (List.getElem?_eq_some_iff.mp hy).1
    refine wpAny_pyNext_zipD2_item sep D1 D2 hz hT hO st1 st2 l1 l2 fun u1 u2 h' tk p1 p2 z' O' s1' s2' hT' hsz hk => ?_
    obtain ⟨x', hx', r1⟩ := hP1 i u1 p1
    rw [hx] at hx'; cases hx'
    obtain ⟨y', hy', r2⟩ := hP2 i u2 p2
    rw [hy] at hy'; cases hy'
    refine ⟨_, rfl, wpAny_letOwnedTupleGo_zip (s := { s with heap := h', toks := tk }) z' fun h'' z'' sb => ?_⟩
    have hT2 : h''.get? s.heap.objs.size = some { cls := .type "tuple", data := .seq #[u1, u2] } := (sb.2 _ (Nat.ne_of_gt hzl)).trans hT'
    have new : ObjOk X.prog X.w (upd H s.heap.objs.size (.tup [x, y])) h'' s.heap.objs.size (.tup [x, y]) :=
      ⟨by show 2 ≤ sizeLine; decide, [u1, u2], .cons r1 (.cons r2 .nil), ⟨_, hT2, rfl, _, rfl⟩⟩
    have n1 : N + 2 ≠ N + 4 := sep.TIz
    have n2 : N + 3 ≠ N + 4 := sep.TOz
    have n3 : N + 2 ≠ N + 3 := sep.TITO
    have n4 : N ≠ N + 4 := fun e => sep.zi1 e.symm
    have n5 : N + 1 ≠ N + 4 := fun e => sep.zi2 e.symm
    refine ⟨.ref s.heap.objs.size, _, I.turnedNew (t' := tk) (ch := [N + 4, N + 2, N + 3, N, N + 1]) (fun c o hb q => (sb.2 c (fun q' => hb (by simp [q']))).trans (hk c o (fun q' => hb (by simp [q'])) (fun q' => hb (by simp [q'])) (fun q' => hb (by simp [q'])) (fun q' => hb (by simp [q'])) q)) hf (Nat.le_refl _) new, rfl,
      ⟨_, x, y, rfl, I.hok.fresh (Nat.le_refl _), rfl, fun l hl => by rw [Src.inj I hl hq1]; exact hx, fun l hl => by rw [Src.inj I hl hq2]; exact hy⟩, ⟨z'', ?_, ⟨u1, u2, (sb.2 _ n2).trans O'⟩, Src.frame (hS1 _ _ s1') fun o q => (sb.2 _ n4).trans q, Src.frame (hS2 _ _ s2') fun o q => (sb.2 _ n5).trans q⟩, fun c hcm => ?_⟩
    · exact (sb.2 _ n1).trans (hk _ _ n1 n3 sep.TIi1 sep.TIi2 hT)
    · have lt : c < s.heap.objs.size := by
        rcases (by simpa using hcm : c = N + 4 ∨ c = N + 2 ∨ c = N + 3 ∨ c = N ∨ c = N + 1) with q | q | q | q | q <;> rw [q]
        · exact hzl
        · exact Heap.lt_size hT
        · exact Heap.lt_size hO
        · obtain ⟨o, e, _⟩ := Src.live h1; exact Heap.lt_size e
        · obtain ⟨o, e, _⟩ := Src.live h2; exact Heap.lt_size e
      rw [upd_ne (Nat.ne_of_lt lt)]
      exact (hf c hcm).1
  done := by
    intro X hP hw hK hc i pins s σ H E I hf ⟨hz, hT, ⟨x0, y0, hO⟩, h1, h2⟩ ⟨xs, ys, hq1, hq2, hend⟩
    subst hP hw hK
    obtain ⟨P1, S1, D1, st1, hS1, hP1⟩ := Src.draws hc I hq1 h1 ha
    obtain ⟨P2, S2, D2, st2, hS2, hP2⟩ := Src.draws hc I hq2 h2 (fun c q => Nat.lt_succ_of_lt (hb c q))
    exact wpAny_pyNext_zipD2_end (zip_sep2 (N := N) ha hb) D1 D2 hz hT hO st1 st2 (by omega) (by omega) (by omega) fun h' tk hk => ⟨rfl, I.turnedL (t' := tk) (ch := [N + 4, N + 2, N + 3, N, N + 1]) (fun c o hb q =>
      hk c o (fun q' => hb (by simp [q'])) (fun q' => hb (by simp [q'])) (fun q' => hb (by simp [q'])) (fun q' => hb (by simp [q'])) q) hf⟩
  self := fun A i s Q E st h => wpAny_pyIter_zip st.1 h
/-- a value by its source -/
def AsSrc (K : PySem.W.Frag) (H : Hp) (u : V) (G : Src → Prop) : Prop := (∃ a xs, u = .ref a ∧ SqL K H a xs ∧ G (.lst a)) ∨ (∃ a xs, u = .ref a ∧ SqT K H a xs ∧ G (.tup a)) ∨ (∃ x, u = .str x ∧ ∀ k, G (.txt x k))
theorem AsSrc.of {K : PySem.W.Frag} {H : Hp} {u : V} {v : Value} {G : Src → Prop} (h : AsSrc K H u G) (r : RelV u v) : ∃ src xs, v = src.val ∧ src.Of K H xs ∧ G src := by
  rcases h with ⟨a, xs, rfl, hq, q⟩ | ⟨a, xs, rfl, hq, q⟩ | ⟨x, rfl, q⟩
  · exact ⟨.lst a, xs, r, hq, q⟩
  · exact ⟨.tup a, xs, r, hq, q⟩
  · obtain ⟨k, rfl⟩ := r
    exact ⟨.txt x k, _, rfl, rfl, q k⟩
def iZipS (K : PySem.W.Frag) (ta : TA) : TI := fun σ H R => ta σ H fun vs H1 => ∃ u1 u2, vs = [u1, u2] ∧ AsSrc K H1 u1 fun a => AsSrc K H1 u2 fun b => R (ItZ K a b) H1
theorem pi_zipS {X : Cx} {e e2 : Expr} {ta : TA} {p pos tpos : Pos} {elts : List Expr} {kk : Nat} (hg : Gl X "zip") (hm : X.mg "zip" = none) (ha : PA X [e, e2] ta)
    (hs : starEach [e, e2] X.env = (false, eval e X.env) :: starEach [e2] X.env := by rfl) (hpl : (backTo pos (starEach [e2] X.env)).any (·.1) = false := by rfl) :
    PI X (.Tuple elts kk tpos) (.Call (.Name "zip" p) [e, e2] [] pos) (iZipS X.K ta) := by
  refine ⟨fun pins s σ H R I h => ?_⟩
  refine Call_ (ld_blt I hg hm PyProof.Rows.boot_zip (PyProof.Rows.callWith_type1 (thn (ha.run pos pins s σ H _ I h) fun us s1 ⟨vs, H1, I1, r1, q1⟩ => ?_) hs hpl))
  obtain ⟨u1, u2, ex, q⟩ := q1
  subst ex
  obtain ⟨v1, v2, rfl, ra, rb⟩ := vals2 r1
  obtain ⟨a, xs, rfl, ho1, q⟩ := q.of ra
  obtain ⟨b, ys, rfl, ho2, q⟩ := q.of rb
  obtain ⟨o1, Hc1, B1, hb1, hi1, hc1⟩ := Src.begins I1 ho1
  obtain ⟨o2, Hc2, B2, hb2, hi2, hc2⟩ := Src.begins I1 ho2
  refine zip_begins2 B1 B2 hb1 hb2 fun h' hz hT hO h1 h2 hsz hk => wpAny_pyIter_zip hz ?_
  have I2 : Inv X pins σ H1 { s1 with heap := h' } := I1.kept (t' := s1.toks) hk
  refine ⟨s1.heap.objs.size + 4, [s1.heap.objs.size + 4, s1.heap.objs.size + 2, s1.heap.objs.size + 3, s1.heap.objs.size, s1.heap.objs.size + 1], _, _, H1, rfl, I2, turn_zipS (a := a) (b := b) (N := s1.heap.objs.size) hc1 hc2, ⟨hz, hT, ⟨_, _, hO⟩, hi1 _ _ h1, hi2 _ _ h2⟩, fun c hcm => ?_, q⟩
  have le : s1.heap.objs.size ≤ c := by
    rcases (by simpa using hcm : c = s1.heap.objs.size + 4 ∨ c = s1.heap.objs.size + 2 ∨ c = s1.heap.objs.size + 3 ∨ c = s1.heap.objs.size ∨ c = s1.heap.objs.size + 1) with z | z | z | z | z <;> (rw [z]; simp)
  exact I1.fpOk le (I1.hok.fresh le)
section
variable {X : Cx} {W : WX} {s s0 s1 : Sg}
def zipD : List D → List D → List D
  | a :: as, b :: bs => .tuple [a, b] :: zipD as bs
  | _, _ => []
theorem zipD_get : ∀ {as bs : List D} {i : Nat} {d : D}, (zipD as bs)[i]? = some d → ∃ a b, as[i]? = some a ∧ bs[i]? = some b ∧ d = .tuple [a, b]
  | a :: as, b :: bs, 0, d, h => by simp [zipD] at h; exact ⟨a, b, rfl, rfl, h.symm⟩
  | a :: as, b :: bs, i + 1, d, h => by simpa using zipD_get (as := as) (bs := bs) (i := i) (by simpa [zipD] using h)
  | [], bs, i, d, h => by cases bs <;> simp [zipD] at h
  | a :: as, [], i, d, h => by simp [zipD] at h
theorem zipD_len : ∀ (as bs : List D), (zipD as bs).length = min as.length bs.length
  | a :: as, b :: bs => by simp [zipD, zipD_len as bs]
  | [], bs => by cases bs <;> simp [zipD]
  | a :: as, [] => by simp [zipD]
theorem walk_zip {a b : Src} {ds es : List D} {ok : Env → Bool} (h1 : SrcW X s a ds ok) (h2 : SrcW X s b es ok) : Walk X s (zipD ds es) ok (ItZ X.K a b) where
  go := fun s' i d t E' hk e => by
    obtain ⟨xs, a1, a2⟩ := h1 s' t E' hk
    obtain ⟨ys, b1, b2⟩ := h2 s' t E' hk
    obtain ⟨x, y, q1, q2, _⟩ := zipD_get e
    obtain ⟨x', hx, _⟩ := a2.get q1
    obtain ⟨y', hy, _⟩ := b2.get q2
    exact ⟨xs, ys, x', y', a1, b1, hx, hy⟩
  yld := fun s' i d v H2 t E' hk e ⟨T, x, y, ev, hT, eH, hx, hy⟩ => by
    obtain ⟨xs, a1, a2⟩ := h1 s' t E' hk
    obtain ⟨ys, b1, b2⟩ := h2 s' t E' hk
    obtain ⟨d1, d2, q1, q2, rfl⟩ := zipD_get e
    obtain ⟨x', hx', rx⟩ := a2.get q1
    obtain ⟨y', hy', ry⟩ := b2.get q2
    subst ev; subst eH
    have e1 := hx xs a1
    rw [hx'] at e1; cases e1
    have e2 := hy ys b1
    rw [hy'] at e2; cases e2
    obtain ⟨c1, c2, c3⟩ := new_pair E' hT (reps_cons rx (reps_cons ry reps_nil))
    exact ⟨s'.M, c1, c2, c3⟩
  stop := fun s' t E' hk => by
    obtain ⟨xs, a1, a2⟩ := h1 s' t E' hk
    obtain ⟨ys, b1, b2⟩ := h2 s' t E' hk
    exact ⟨xs, ys, a1, b1, by rw [a2.length, b2.length, zipD_len]⟩
def plainI (v : EV) (ρ : Env) : Option (List D) := match itemsOf v ρ with
  | some ⟨ds, none⟩ => some ds
  | _ => none
def zipV (vs : List EV) (ρ : Env) : Out Its := match vs with
  | [v, w] => (match plainI v ρ, plainI w ρ with
    | some ds, some es => .ok ⟨zipD ds es, none⟩ ρ
    | _, _ => .stuck)
  | _ => .stuck
theorem plain_of {v : EV} {u : V} {ds : List D} (E : ER X.K X.mg s) (r : EVR X.K X.mg s v u) (e : plainI v s.ρ = some ds) {G : Src → Prop} (k : ∀ src, SrcW X s src ds (fun _ => true) → G src) : AsSrc X.K s.H u G := by
  unfold plainI at e
  split at e
  · rename_i ds' e2
    cases e
    obtain ⟨_, hsrc⟩ := src_of E r e2
    rcases hsrc with ⟨a, rfl, ⟨xs, hq⟩, sw⟩ | ⟨a, rfl, ⟨xs, hq⟩, sw⟩ | ⟨x, rfl, sw⟩
    · exact .inl ⟨a, xs, rfl, hq, k _ sw⟩
    · exact .inr (.inl ⟨a, xs, rfl, hq, k _ sw⟩)
    · exact .inr (.inr ⟨x, rfl, fun kk => k _ (sw kk)⟩)
  · cases e
theorem di_zip {elts : List Expr} {kk : Nat} {tpos : Pos} {e e2 : Expr} {p pos : Pos} {f : Env → Out (List EV)} (hg : Gl X "zip") (hm : X.mg "zip" = none) (ha : DEs X W [e, e2] f) (hs : starEach [e, e2] X.env = (false, eval e X.env) :: starEach [e2] X.env := by rfl) (hpl : (backTo pos (starEach [e2] X.env)).any (·.1) = false := by rfl) :
    DI X W (.Tuple elts kk tpos) (.Call (.Name "zip" p) [e, e2] [] pos) (fun ρ => (f ρ).bind zipV) := by
  refine ⟨fun s R E g => (pi_zipS hg hm (pa_w _) hs hpl).w ?_⟩
  refine (ha.run s _ E (GoalK.bind0 E g)).mono fun us H2 ⟨vs, s2, hσ, hH, he, t, _, E2, r, g2⟩ => ?_
  clear he
  subst hH
  unfold zipV at g2
  split at g2
  · rename_i v w
    split at g2
    · rename_i ds es h1 h2
      obtain ⟨u1, u2, rfl, r1, r2⟩ := pair2 r
      exact ⟨u1, u2, rfl, plain_of E2 r1 h1 fun a sa => plain_of E2 r2 h2 fun b sb => g2.fin hσ t E2 (rw_none (walk_zip sa sb))⟩
    · exact g2.elim
  · exact g2.elim
end
end DL
namespace DL
open PySem PySem.Spec PyProof.Rows L2

/-! ### f(k = e, ..) -/
def wK (X : Cx) (kws : List Keyword) (σ : L2.St) (H : Hp) (Q : List V → Hp → Prop) : Prop := ∀ (pos : Pos) (pins : List (Addr × Obj)) (st : Shared), Inv X pins σ H st → wpAny (model X.prog X.w) X.A (evalAll ((backToKw pos (keywordEach kws X.env)).map (·.2))) (AP X pins σ Q) X.xe st
theorem pk_w (X : Cx) (kws : List Keyword) : PK X kws (wK X kws) := ⟨fun pos pins s σ H Q I h => h pos pins s I⟩
theorem _root_.L2.PK.w {X : Cx} {kws : List Keyword} {t : TA} (h : PK X kws t) {σ : L2.St} {H : Hp} {Q : List V → Hp → Prop} (q : t σ H Q) : wK X kws σ H Q := fun pos pins s I => h.run pos pins s σ H Q I q
theorem wK.mono {X : Cx} {kws : List Keyword} {σ : L2.St} {H : Hp} {Q Q' : List V → Hp → Prop} (h : wK X kws σ H Q) (q : ∀ v H', Q v H' → Q' v H') : wK X kws σ H Q' := fun pos pins s I =>
  thn (h pos pins s I) fun u s' ⟨v, H', I', r, z⟩ => ⟨v, H', I', r, q v H' z⟩
structure DKs (X : Cx) (W : WX) (kws : List Keyword) (f : Env → Out (List EV)) : Prop where
  run : ∀ s Q, ER X.K X.mg s → Goal X W (REs X) s (f s.ρ) Q → wK X kws s.σ s.H Q
section
variable {X : Cx} {W : WX} {s s0 s1 : Sg}
theorem dks_nil : DKs X W [] fNil := ⟨fun s Q E g => pk_nil.w (show tNil s.σ s.H Q from g.fin (s2 := s) rfl (Tr.refl E) E .nil)⟩
theorem dks_cons {nm : Option Str} {kpos : Pos} {e : Expr} {kws : List Keyword} {f : Env → Out EV} {g : Env → Out (List EV)} (h : DE X W e f) (ht : DKs X W kws g) : DKs X W (⟨nm, e, kpos⟩ :: kws) (fCons f g) := by
  refine ⟨fun s Q E gg => (pk_cons (pe_w e) (pk_w X kws)).w ?_⟩
  refine (h.arg.run s _ E (GoalK.bind0 E gg)).mono fun u1 H1 ⟨v1, s1, hσ, hH, _, t1, _, E1, ⟨r1, fr1⟩, g1⟩ => ?_
  subst hH
  rw [← hσ]
  refine (ht.run s1 _ E1 (GoalK.bind t1 hσ g1)).mono fun u2 H2 ⟨v2, s2, hσ2, hH2, _, t2, t12, E2, r2, g2⟩ => ?_
  subst hH2
  exact g2.fin (hσ2.trans hσ) t2 E2 (.cons (EVR.tr E1 t12 hσ2 r1) r2)
def permL {α : Type} (perm : List Nat) (vs : List α) : List α := perm.filterMap fun i => vs[i]?
theorem pair_get {α β : Type} {R : α → β → Prop} : ∀ {xs : List α} {ys : List β}, Paired R xs ys → ∀ i : Nat, (xs[i]? = none ∧ ys[i]? = none) ∨ ∃ a b, xs[i]? = some a ∧ ys[i]? = some b ∧ R a b
  | _, _, .nil, i => .inl ⟨by simp, by simp⟩
  | _, _, .cons h t, 0 => .inr ⟨_, _, rfl, rfl, h⟩
  | _, _, .cons h t, i + 1 => by simpa using pair_get t i
theorem permL_pair {α β : Type} {R : α → β → Prop} {xs : List α} {ys : List β} (h : Paired R xs ys) : ∀ perm : List Nat, Paired R (permL perm xs) (permL perm ys)
  | [] => .nil
  | i :: perm => by
    have ih := permL_pair h perm
    unfold permL at ih ⊢
    rcases pair_get h i with ⟨e1, e2⟩ | ⟨a, b, e1, e2, r⟩
    · rw [List.filterMap_cons_none e1, List.filterMap_cons_none e2]; exact ih
    · rw [List.filterMap_cons_some e1, List.filterMap_cons_some e2]; exact .cons r ih
/-- the callee by its name, all by keywords -/
structure CalleeK (X : Cx) (x : Str) (k : Nat) (n : Nat) (g : FD) (ks : List Str) (perm : List Nat) : Prop where
  ex : ∃ (f : Addr) (fd : FuncData) (ps : List Str), ps.length = n ∧ FnG X.prog X.w X.K X.mg X.base k f fd ps (spD X.K X.mg n g) ∧ X.mg x = some (.ref f) ∧ PySem.W.keepIn X.K (.ref f) = true ∧
    ∀ ws : List Value, ws.length = n → bindArgs fd ⟨[], ks.zip ws⟩ = pure (ps.zip (permL perm ws))
def fCallK (n : Nat) (perm : List Nat) (g : FD) (fa : Env → Out (List EV)) : Env → Out EV := fun ρ => (fa ρ).bind fun vs ρ1 => if vs.length = n then dCallN n g (permL perm vs) ρ1 else .stuck
theorem de_callK {x : Str} {k n : Nat} {g : FD} {kws : List Keyword} {ks : List Str} {perm : List Nat} {fa : Env → Out (List EV)} {p pos : Pos} (C : DC X W) (F : CalleeK X x k n g ks perm) (hr : Room k X.A) (hg : Gl X x) (ha : DKs X W kws fa)
    (hall : (backToKw pos (keywordEach kws X.env)).all (·.1.isSome) = true := by rfl) (hks : (backToKw pos (keywordEach kws X.env)).filterMap (·.1) = ks := by rfl)
    (hpl : ((backTo pos (starEach [] X.env)).any (·.1) || (backToKw pos (keywordEach kws X.env)).any (·.1.isNone)) = false := by rfl) (hdb : (x == ("__debug__" : Str)) = false := by decide) :
    DE X W (.Call (.Name x p) [] kws pos) (fCallK n perm g fa) := by
  obtain ⟨f, fd, ps, hn, F, hm, hk, hb⟩ := F.ex
  refine ⟨fun s Q E gg pins st I => ?_⟩
  refine wpAny_Call_Name_kw (ld_glob I hg hm ?_ hdb)
  have h1 := ha.run s _ E (GoalK.bind0 E gg) pos pins st I
  refine PySem.W.callWith_KW0 (h₀ := X.base) I.ok.mod.kin hk hall (thn h1 fun us s1 ⟨vs, H1, I1, r, v, s2, hσ, hH, _, t, _, E2, R, g2⟩ => ⟨I1.kIn, ?_⟩) hpl
  subst hH
  rw [hks]
  split at g2
  · rename_i hl0
    have R : Paired (fun v u => EVR X.K X.mg s2 v u) v vs := R
    have hul : us.length = n := by rw [← r.length, ← R.length]; exact hl0
    unfold dCallN at g2
    split at g2
    · rename_i hl
      rw [← hσ] at I1 ⊢
      have R2 := permL_pair R perm
      have r2 : Vals (permL perm vs) (permL perm us) := permL_pair r perm
      have cg := call_goal E2 t hσ R2 hl g2
      refine wpAny_call (codeAny_mono (run_g F hr C.gd (args := ⟨[], ks.zip us⟩) (us := permL perm us) (fun _ => BindsTo.of_eq (hb us hul)) (fun e s' c => C.tk e s' (XE.of_call I1 (fun _ _ _ z => z) c)) I1 r2 (by rw [hσ]; exact cg)) fun o s' hq => ?_)
      cases o with
      | error e => exact hq
      | ok fl => cases fl with
        | ret u => exact hq
        | next => exact False.elim hq
        | brk => exact False.elim hq
        | cont => exact False.elim hq
    · exact g2.elim
  · exact g2.elim

/-! ### a def that a name holds -/
abbrev Tab := List (Str × Nat × FD)
def fnAt (i : Nat) (T : Tab) (ρ : Env) : Option (Nat × FD) := match ρ[i]? with
  | some (some (.fn x)) => T.lookup x
  | _ => none
def fCallV (i : Nat) (T : Tab) (fa : Env → Out (List EV)) : Env → Out EV := fun ρ => match fnAt i T ρ with
  | some (n, g) => (fa ρ).bind (dCallN n g)
  | none => .stuck
theorem de_callV {i : Nat} {x : Str} {k : Nat} {T : Tab} {e : Expr} {es : List Expr} {fa : Env → Out (List EV)} {p pos : Pos} (C : DC X W) (F : ∀ y n g, T.lookup y = some (n, g) → Callee X y k n g) (hr : Room k X.A) (hN : X.N[i]? = some x) (hv : Vis X.env.scope x) (ha : DEs X W (e :: es) fa)
    (hdb : (x == ("__debug__" : Str)) = false := by decide) (hcd : (x == ("__classdict__" : Str)) = false := by decide) (he : starEach (e :: es) X.env = (false, eval e X.env) :: starEach es X.env := by rfl) (hpl : (backTo pos (starEach es X.env)).any (·.1) = false := by rfl) :
    DE X W (.Call (.Name x p) (e :: es) [] pos) (fCallV i T fa) := by
  refine ⟨fun s Q E gg pins st I => ?_⟩
  unfold fCallV at gg
  split at gg
  · rename_i n g h0
    unfold fnAt at h0
    split at h0
    · rename_i y ho
      obtain ⟨u0, e1, f, hm, h2⟩ := E.slot i _ ho
      subst h2
      obtain ⟨f', fd, ps, hn, F, hm', hk, hb⟩ := (F y n g h0).ex
      rw [hm] at hm'; cases hm'
      refine wpAny_Call_Name_kw (thn ((pe_var (pos := p) (i := i) hN hv hdb hcd).run pins st s.σ s.H (fun v H1 => v = .ref f ∧ H1 = s.H) I ⟨.ref f, e1, rfl, rfl⟩) fun u s1 ⟨v, H1, I1, r1, ev, eH⟩ => ?_)
      subst ev
      subst eH
      obtain rfl : u = Value.ref f := r1
      have h1 := ha.run s _ E (GoalK.bind0 E gg) pos pins s1 I1
      refine PySem.W.callWith_K (h₀ := X.base) I.ok.mod.kin hk (thn h1 fun us s1 ⟨vs, H1, I1, r, v, s2, hσ, hH, _, t, _, E2, R, g2⟩ => ⟨I1.kIn, ?_⟩) he hpl
      subst hH
      unfold dCallN at g2
      split at g2
      · rename_i hl
        rw [← hσ] at I1 ⊢
        refine wcall_g C.tk F hr C.gd hb ?_ pins s1 us I1 r
        have := call_goal E2 t hσ R hl g2
        rw [hσ]; exact this
      · exact g2.elim
    · cases h0
  · exact gg.elim

/-! ### name op= e -/
structure DA2 (X : Cx) (W : WX) (o : Operator) (op : D → D → Env → Out EV) : Prop where
  run : ∀ (s0 s : Sg) (da db : D) (u1 u2 : V) (Q : VK), ER X.K X.mg s → Tr s0 s → s.σ = s0.σ → RepT X.K s.H s.M da u1 → RepT X.K s.H s.M db u2 → Goal X W (RE X) s0 (op da db s.ρ) Q → wO X (inplaceOp o) u1 u2 s.H Q
def opIadd : D → D → Env → Out EV
  | .int i, .int j, ρ => .ok (.sh (.int (i + j))) ρ
  | .str x, .str y, ρ => if x.length + y.length ≤ sizeLine then .ok (.sh (.str (x ++ y))) ρ else .stuck
  | _, _, _ => .stuck
theorem da_add : DA2 X W .Add opIadd := by
  refine ⟨fun s0 s da db u1 u2 Q E t hσ ra rb g => ?_⟩
  unfold opIadd at g
  split at g
  · have e := ofS_int ra.s; subst e
    have e := ofS_int rb.s; subst e
    exact iop_add.w ⟨_, _, rfl, rfl, g.flat E t hσ rep_int⟩
  · split at g
    · rename_i hz
      obtain ⟨rfl, h1⟩ := ofS_str ra.s
      obtain ⟨rfl, h2⟩ := ofS_str rb.s
      exact iop_add_str.w ⟨_, _, rfl, rfl, hz, g.flat E t hσ (rep_str (by rw [Str.length_append]; exact hz))⟩
    · exact g.elim
  · exact g.elim
def opIsub : D → D → Env → Out EV
  | .int i, .int j, ρ => .ok (.sh (.int (i - j))) ρ
  | _, _, _ => .stuck
theorem da_sub : DA2 X W .Sub opIsub := by
  refine ⟨fun s0 s da db u1 u2 Q E t hσ ra rb g => ?_⟩
  unfold opIsub at g
  split at g
  · have e := ofS_int ra.s; subst e
    have e := ofS_int rb.s; subst e
    exact iop_sub.w ⟨_, _, rfl, rfl, g.flat E t hσ rep_int⟩
  · exact g.elim
def augV (op : D → D → Env → Out EV) (da : D) (v : EV) (ρ : Env) : Out EV := match rd v ρ with
  | some db => op da db ρ
  | none => .stuck
def dAug (i : Nat) (op : D → D → Env → Out EV) (f : Env → Out EV) : Env → Out Fl := fun ρ => match ρ[i]? with
  | some (some (.sh da)) => (f ρ).bind fun v ρ1 => (augV op da v ρ1).bind (dSto i)
  | _ => .stuck
theorem ds_aug {i : Nat} {x : Str} {e : Expr} {o : Operator} {op : D → D → Env → Out EV} {f : Env → Out EV} {pos pos' : Pos} (C : DC X W) (ho : DA2 X W o op) (h : DE X W e f) (hi : X.N[i]? = some x) (hx : Loc X.env.scope x)
    (hf : X.fn x = true ∨ X.env.scope.names.lookup x = some .local) : DS X W (.AugAssign (.Name x pos') o e pos) (dAug i op f) := by
  refine ⟨fun s D E g => (ps_aug C.nd hi hx (pe_w e) (ti := wO X (inplaceOp o)) (fun pins s σ H x y v u Q I r1 r2 h => h pins σ s v u I r1 r2) hf).w ?_⟩
  unfold dAug at g
  split at g
  · rename_i da hda
    obtain ⟨u0, e1, r0⟩ := E.slot i _ hda
    refine ⟨u0, e1, ?_⟩
    refine (h.run s _ E (SGoal.bind0 E g)).mono fun u H2 ⟨v, s2, hσ, hH, _, t, _, E2, ⟨r, fr⟩, g2⟩ => ?_
    subst hH
    unfold augV at g2
    split at g2
    · rename_i db hdb
      have r0' : Rep X.K s2.H s2.M da u0 := Rep.tr E t (show Rep X.K s.H s.M da u0 from r0)
      refine ho.run s s2 da db u0 u _ E2 t hσ (Rep.top r0') (rd_ok E2 r hdb) ?_
      have gg := SGoal.bind (R := RE X) (s0 := s) (s1 := s) (Tr.refl E) g2
      refine gg.mono fun z H3 ⟨w, s3, hσ3, hH3, _, t3, _, E3, ⟨r3, fr3⟩, g3⟩ => ?_
      subst hH3
      rw [← hσ3]
      exact sto_ok E3 t3 hσ3 r3 fr3 g3
    · exact g2.elim
  · exact g.elim
end
end DL
namespace DL
open PySem PySem.Spec PyProof.Rows L2

/-! ### the law's head -/
theorem sc_of {K : PySem.W.Frag} {H : Hp} {a : Addr} {ns : List Int} (hO : Only H) (h : SqL K H a (ns.map V.int)) : ScR K H ns (.ref a) := by
  refine ⟨a, rfl, ?_⟩
  rcases h with (h | ⟨o, h⟩) | h
  · rcases hO a with z | ⟨o, xs, z⟩ <;> (rw [z] at h; cases h)
  · exact .inl ⟨o, h⟩
  · exact .inr h
theorem spD_law {K : PySem.W.Frag} {mg : Str → Option Value} {H : Hp} {a : Addr} {ns : List Int} {g : FD} {ρ' : Env} (hO : Only H) (h : SqL K H a (ns.map V.int)) (hg : g [some (.sc ns)] = .ok (.sh (.bool true)) ρ') :
    spD K mg 1 g [.ref a] H (fun v _ => v = .bl true) fun _ _ _ => False := by
  refine ⟨rfl, fun _ => False, [.sc ns], ⟨rfl, fun i sv e => ?_, fun i j p q b e1 e2 => ?_, fun b h => h.elim⟩, fun sv hs ho => ?_, ?_⟩
  · cases i with
    | zero =>
      have e : some (some (SV.sc ns)) = some (some sv) := e
      cases e
      exact ⟨.ref a, rfl, sc_of hO h⟩
    | succ i => have e : ([] : Env)[i]? = some (some sv) := e; simp at e
  · cases i with
    | zero =>
      have e1 : some (some (SV.sc ns)) = some (some p) := e1
      cases e1; cases e2
    | succ i => have e1 : ([] : Env)[i]? = some (some p) := e1; simp at e1
  · have : sv = .sc ns := by simpa using hs
    subst this; cases ho
  · show GoalK K mg _ (REK K mg) _ (g [some (.sc ns)]) _
    rw [hg]
    exact fun u M' H' t E r => ofS_bool (Rep.top (show Rep _ _ _ _ _ from r.1)).s
theorem law_callG {P : Program} {w : World} {K : PySem.W.Frag} {mg mb : Str → Option Value} {k : Nat} {fa a : Addr} {fd : FuncData} {x : Str} {g : FD} {st : Shared} {vs : List Value} {ns : List Int}
    (KX : K.In st.heap) (hns : st.heap.Ns mainGlobals mg) (hb : st.heap.Ns builtinsNs mb) (hbb : ∀ x : Str, x ≠ "__name__" → mb x = bootBuiltins x) (hlim : st.heap.NoLimit) (hgn : st.gens = #[])
    (ha : st.heap.get? a = some { cls := .type "list", data := .seq vs.toArray }) (hi : IntsAre vs ns) (hl : ns.length ≤ sizeLine) (hr : Room k callerA)
    (F : ∀ base : Heap, K.In base → base.Ns mainGlobals mg → FnG P w K mg base k fa fd [x] (spD K mg 1 g)) (hbind : ∀ (s : Shared) (u : Value), BindsTo s fd ⟨[u], []⟩ [(x, u)])
    (hg : ∃ ρ', g [some (.sc ns)] = .ok (.sh (.bool true)) ρ') :
    codeAny (model P w) callerA (.call (.ref fa) ⟨[.ref a], []⟩) (fun r s' => r = .ok (.ret (.bool true)) ∧ OldK st.heap s'.heap ∧ s'.os = st.os ∧ AllBare s'.gens) st := by
  obtain ⟨ρ', hg⟩ := hg
  have rel := L2.vals_ints hi
  -- the script alone is seen, or nothing
  have main : ∀ G : Hp, Only G → SqL K G a (ns.map V.int) → HOk P w G st.heap → (∀ b, G b ≠ none → b = a ∧ K.lookup a = none) →
      codeAny (model P w) callerA (.call (.ref fa) ⟨[.ref a], []⟩) (fun r s' => r = .ok (.ret (.bool true)) ∧ OldK st.heap s'.heap ∧ s'.os = st.os ∧ AllBare s'.gens) st := fun G only seq okG lone => by
    -- what is not the script stands in the ground
    have unseen : ∀ {b : Addr} {o : Obj}, st.heap.get? b = some o → (b = a → K.lookup a = none → False) → G b = none := fun {b o} e hn => Classical.byContradiction fun z => hn (lone b z).1 (lone b z).2
    have under : ∀ {b : Addr} {m : Str → Option Value}, st.heap.Ns b m → (hidT st.heap G).Ns b m := fun {b m} hm => by
      obtain ⟨o, es, ep, e, d, r⟩ := hm
      refine ⟨o, es, ep, hidT_get e (unseen e fun z _ => ?_), d, r⟩
      rw [z, ha] at e
      have e := Option.some.inj e
      rw [← e] at d
      exact (nomatch (show Data.seq vs.toArray _ = Data.dict es ep from d))
    have inK : K.In (hidT st.heap G) := fun b o e => hidT_get (KX b o e) (unseen (KX b o e) fun z z2 => by rw [z, z2] at e; cases e)
    have modl : Mod K mg (hidT st.heap G) := by
      obtain ⟨mc, q1, q2⟩ := hlim
      exact ⟨inK, under hns, ⟨mb, under hb, hbb⟩, ⟨mc, under q1, q2⟩⟩
    have env0 : Env0 P w K mg (hidT st.heap G) callerA [] st G := ⟨rfl, modl, fun b o e => of_hidT e, Nat.le_of_eq (hidT_size _ _), trivial, fun b hb => absurd (show b ∈ ([] : List Addr) from hb) (by simp), okG, .of_eq hgn⟩
    have run := (F _ inK (under hns)).run callerA [] st G ⟨[.ref a], []⟩ [.ref a] [.ref a] _ _ hr rfl env0 (hbind st (.ref a)) (.cons rfl .nil) (spD_law only seq hg)
    refine codeAny_mono run fun o s' res => ?_
    match o, res with
    | .error e, res =>
      obtain ⟨_, _, _, _, _, _, _, _, _, _, _, _, no⟩ := res
      exact no.elim
    | .ok .next, res => exact False.elim res
    | .ok .brk, res => exact False.elim res
    | .ok .cont, res => exact False.elim res
    | .ok (.ret u), res =>
      obtain ⟨v, G', os, bare, un, okG', ru, q⟩ := res
      have q : v = .bl true := q
      rw [q] at ru
      have eu : u = Value.bool true := ru
      refine ⟨by rw [eu], OldK.of_keep fun b o e => ?_, os, bare⟩
      cases hG : G b with
      | none => exact un.keep b o e hG (by intro z; exact absurd (show b ∈ ([] : List Addr) from z) (by simp)) (by simp)
      | some u2 =>
        rcases only b with z | ⟨ob, xs, z⟩
        · rw [hG] at z; cases z
        · have e1 := (okG b _ z).1
          rw [e] at e1
          rw [Option.some.inj e1]
          exact (okG' b _ (un.frzs b ob _ z)).1
  have len1 := hi.length
  cases hk : K.lookup a with
  | some o =>
    have e : some o = _ := (KX a o hk).symm.trans ha
    have e := Option.some.inj e
    subst e
    exact main (fun _ => none) (fun _ => .inl rfl) (.inr ⟨_, vs.toArray, _, hk, rfl, rfl, rfl, by rw [List.size_toArray, len1]; exact hl, by simpa using rel⟩) (fun b u z => nomatch (show (none : Option HO) = some u from z)) fun b z => absurd rfl z
  | none =>
    have at1 : ∀ b, (if b = a then some (HO.frz { cls := .type "list", data := .seq vs.toArray } (.lst (ns.map V.int))) else none) ≠ none → b = a := fun b z => Classical.byContradiction fun nb => z (if_neg nb)
    refine main (fun b => if b = a then some (HO.frz { cls := .type "list", data := .seq vs.toArray } (.lst (ns.map V.int))) else none) (fun b => ?_) (.inl (.inr ⟨_, if_pos rfl⟩)) (fun b u z => ?_) fun b z => ⟨at1 b z, hk⟩
    · by_cases nb : b = a
      · exact .inr ⟨_, _, if_pos nb⟩
      · exact .inl (if_neg nb)
    · have nb : b = a := at1 b fun z2 => by
        exact nomatch z.symm.trans z2
      have z := (if_pos nb).symm.trans z
      cases z
      rw [nb]
      exact ⟨ha, by rw [List.length_map]; exact hl, vs, _, rel, ha⟩
/-- what the law's head asks -/
theorem walkG {l : PySem.W.OpenLaw} {n k : Nat} {q : Program} {loose : List Str} {XP : (Str → Option Value) → Heap → Prop} {YP : World → Heap → Prop} {d : DefRec} {K : Params → PySem.W.Frag} {g : FD} {x : Str}
    (hn : l.most = some n) (hn2 : n ≤ sizeLine) (hdf : d.params.defaults = []) (hr : Room k callerA) (hY : ∀ (w : World) (h : Heap), YP w h → (K w.params).In h)
    (F : ∀ (w : World) (mg : Str → Option Value) (fa : Addr) (h : Heap), (K w.params).In h → h.Ns mainGlobals mg → mg d.name = some (.ref fa) →
      ∃ fd : FuncData, (∀ (s : Shared) (u : Value), BindsTo s fd ⟨[u], []⟩ [(x, u)]) ∧ ∀ base : Heap, (K w.params).In base → base.Ns mainGlobals mg → FnG l.prog w (K w.params) mg base k fa fd [x] (spD (K w.params) mg 1 g))
    (hg : ∀ ns : List Int, ns.length ≤ n → ∃ ρ', g [some (.sc ns)] = .ok (.sh (.bool true)) ρ') : PySem.W.WalkO q loose XP YP l.row.toRowW d [] (fun f vs => PySem.call f vs) := by
  refine Att.attach_call hn hdf fun w s0 st mg mb fa o pm cd doc a vs ns G Y ho hd hcd hmg hobj hints hlen hgn => ?_
  obtain ⟨fd, hb, hF⟩ := F w mg fa _ (hY w _ Y) G.T.g hmg
  exact law_callG (hY w _ Y) G.T.g G.T.b G.T.builtins G.T.nolimit hgn hobj hints (Nat.le_trans hlen hn2) hr hF hb (hg ns hlen)
end DL
namespace DL
open PySem PySem.Spec PyProof.Rows L2

/-! ### what the printed texts use -/
structure CalleeG (P : Program) (w : World) (K : PySem.W.Frag) (mg : Str → Option Value) (base : Heap) (x : Str) (k : Nat) (n : Nat) (g : FD) : Prop where
  ex : ∃ (f : Addr) (fd : FuncData) (ps : List Str), ps.length = n ∧ FnG P w K mg base k f fd ps (spD K mg n g) ∧ mg x = some (.ref f) ∧ PySem.W.keepIn K (.ref f) = true ∧ Binds K fd ps []
section
variable {X : Cx} {W : WX}
theorem cu_of {k : Nat} (hr : Room k X.A) : Cu X := by
  have := hr.un
  unfold Cu
  omega
theorem de_negC {i : Int} {j p pos} : DE X W (.UnaryOp .USub (.Constant (.int i) j p) pos) (fC (.int (-i))) := de_neg de_int
theorem de_fnC {x : Str} {k n : Nat} {g : FD} {pos : Pos} (F : Callee X x k n g) (hg : Gl X x) (hd : (x == ("__debug__" : Str)) = false := by decide) : DE X W (.Name x pos) (fun ρ => .ok (.fn x) ρ) := by
  obtain ⟨f, fd, ps, hn, _, hm, _⟩ := F.ex
  exact de_fn hg hm hd
end
def fFn (x : Str) : Env → Out EV := fun ρ => .ok (.fn x) ρ
def fRet (f : Env → Out EV) : Env → Out Fl := fun ρ => (f ρ).bind leave
def fRetN : Env → Out Fl := fun ρ => .ok (.rt (.sh .none)) ρ
def fNx : Env → Out Fl := fun ρ => .ok .nx ρ
def fBk : Env → Out Fl := fun ρ => .ok .bk ρ
def fCt : Env → Out Fl := fun ρ => .ok .ct ρ
def fStuck : Env → Out Fl := fun _ => .stuck
def fSeq (f g : Env → Out Fl) : Env → Out Fl := fun ρ => (f ρ).seq g
def fYes : Env → Out Bool := fun ρ => .ok true ρ
def fIr (k : List EV → Env → Out Its) (f : Env → Out (List EV)) : Env → Out Its := fun ρ => (f ρ).bind k
def fFrz (f : Env → Out EV) : Env → Out EV := fun ρ => ((f ρ).bind frz).bind fun d ρ1 => .ok (.sh d) ρ1
/-- fill slots behind the parameters -/
theorem callee_of {P : Program} {w : World} {K : PySem.W.Frag} {mg : Str → Option Value} {base : Heap} {x : Str} {k n : Nat} {g : FD} {f : Addr} {fd : FuncData} {ps : List Str} {st : Stmt} (F : Fun K x x st f fd) (G : FnG P w K mg base k f fd ps (spD K mg n g)) (hl : ps.length = n) (hm : mg x = some (.ref f)) (hb : Binds K fd ps []) : CalleeG P w K mg base x k n g :=
  ⟨f, fd, ps, hl, G, hm, F.kp, hb⟩
end DL
namespace DL
open PySem PySem.Spec PyProof.Rows L2

/-! ### {k: v, ..}[e] -/
def keyEV : EV → Option L2.Key
  | .sh (.str x) => some (.inr x)
  | .sh (.int i) => some (.inl i)
  | _ => none
def valD (kvs : List (L2.Key × D)) (k : L2.Key) : Option D := (kvs.find? fun kv => decide (kv.1 = k)).map (·.2)
def putD (kvs : List (L2.Key × D)) (k : L2.Key) (v : D) : List (L2.Key × D) :=
  if (kvs.any fun kv => decide (kv.1 = k)) = true then kvs.map (fun kv => if kv.1 = k then (kv.1, v) else kv) else kvs ++ [(k, v)]
def mergeD (kvs more : List (L2.Key × D)) : List (L2.Key × D) := more.foldl (fun acc kv => putD acc kv.1 kv.2) kvs
def KvR (K : PySem.W.Frag) (H : Hp) (M : Addr → Prop) : List (L2.Key × D) → List (L2.Key × V) → Prop := Paired fun a b => a.1 = b.1 ∧ Rep K H M a.2 b.2
section
variable {K : PySem.W.Frag} {mg : Str → Option Value} {H : Hp} {M : Addr → Prop}
theorem KvR.val {kvs : List (L2.Key × D)} {ks : List (L2.Key × V)} (r : KvR K H M kvs ks) {k : L2.Key} {d : D} (h : valD kvs k = some d) : ∃ v, valV ks k = some v ∧ Rep K H M d v := by
  unfold KvR at r
  induction r with
  | nil => simp [valD] at h
  | @cons a b as bs ab t ih =>
    by_cases e : a.1 = k
    · have hd : valD (a :: as) k = some a.2 := by simp [valD, List.find?_cons, e]
      rw [hd] at h; cases h
      exact ⟨b.2, valV_pos (ab.1.symm.trans e), ab.2⟩
    · have hd : valD (a :: as) k = valD as k := by simp [valD, List.find?_cons, e]
      rw [hd] at h
      obtain ⟨v, q1, q2⟩ := ih h
      exact ⟨v, by rw [valV_neg (fun z => e (ab.1.trans z))]; exact q1, q2⟩
theorem KvR.any {kvs : List (L2.Key × D)} {ks : List (L2.Key × V)} (r : KvR K H M kvs ks) (k : L2.Key) : (kvs.any fun kv => decide (kv.1 = k)) = ks.any fun kv => decide (kv.1 = k) := by
  unfold KvR at r
  induction r with
  | nil => rfl
  | cons ab t ih => simp only [List.any_cons, ih, ab.1]
theorem KvR.append {a c : List (L2.Key × D)} {b d : List (L2.Key × V)} (r : KvR K H M a b) (q : KvR K H M c d) : KvR K H M (a ++ c) (b ++ d) := by
  unfold KvR at r
  induction r with
  | nil => exact q
  | cons ab t ih => exact .cons ab ih
theorem KvR.repl {kvs : List (L2.Key × D)} {ks : List (L2.Key × V)} (r : KvR K H M kvs ks) (k : L2.Key) {d : D} {v : V} (rv : Rep K H M d v) : KvR K H M (kvs.map fun kv => if kv.1 = k then (kv.1, d) else kv) (ks.map fun kv => if kv.1 = k then (kv.1, v) else kv) := by
  unfold KvR at r
  induction r with
  | nil => exact .nil
  | @cons a b as bs ab t ih =>
    refine .cons ?_ ih
    simp only
    by_cases e : a.1 = k
    · rw [if_pos e, if_pos (ab.1.symm.trans e)]; exact ⟨ab.1, rv⟩
    · rw [if_neg e, if_neg (fun z => e (ab.1.trans z))]; exact ab
theorem KvR.put {kvs : List (L2.Key × D)} {ks : List (L2.Key × V)} (r : KvR K H M kvs ks) (k : L2.Key) {d : D} {v : V} (rv : Rep K H M d v) : KvR K H M (putD kvs k d) (putK ks k v) := by
  unfold putD putK
  rw [r.any k]
  split
  · exact r.repl k rv
  · exact r.append (.cons ⟨rfl, rv⟩ .nil)
theorem KvR.merge {more : List (L2.Key × D)} {ms : List (L2.Key × V)} (q : KvR K H M more ms) : ∀ {kvs : List (L2.Key × D)} {ks : List (L2.Key × V)}, KvR K H M kvs ks → KvR K H M (mergeD kvs more) (mergeK ks ms) := by
  unfold KvR at q
  induction q with
  | nil => intro kvs ks r; exact r
  | @cons a b as bs ab t ih =>
    intro kvs ks r
    have := ih (r.put a.1 ab.2)
    unfold mergeD mergeK at this ⊢
    rw [List.foldl_cons, List.foldl_cons, ← ab.1]
    exact this
end
section
variable {K : PySem.W.Frag} {mg : Str → Option Value} {s s0 s1 : Sg}
theorem KvR.tr (E : ER K mg s) (t : Tr s s1) {kvs : List (L2.Key × D)} {ks : List (L2.Key × V)} (r : KvR K s.H s.M kvs ks) : KvR K s1.H s1.M kvs ks := pair_imp (fun _ _ h => ⟨h.1, Rep.tr E t h.2⟩) r
/-- writing into a dict that nobody holds -/
theorem er_over (E : ER K mg s) {p : Addr} {a b : List (L2.Key × V)} (hp : s.H p = some (.dK a)) : ER K mg ⟨s.M, s.ρ, s.σ, upd s.H p (.dK b)⟩ ∧ (∀ d v, Rep K s.H s.M d v → Rep K (upd s.H p (.dK b)) s.M d v) := by
  have ht : ∀ c xs, Rd s.H c (.tup xs) → Rd (upd s.H p (.dK b)) c (.tup xs) := fun c zs h => by
    have ne : c ≠ p := fun z => by
      subst z
      rcases h with h | ⟨o', h⟩ <;> (rw [hp] at h; cases h)
    rcases h with h | ⟨o', h⟩
    · exact .inl (by rw [upd_ne ne]; exact h)
    · exact .inr ⟨o', by rw [upd_ne ne]; exact h⟩
  have hl : ∀ c xs, s.H c = some (.lst xs) → ¬ s.M c → (upd s.H p (.dK b)) c = some (.lst xs) ∧ ¬ s.M c := fun c xs h n => ⟨(upd_ne (fun z => by subst z; rw [hp] at h; cases h)).trans h, n⟩
  refine ⟨⟨E.len, fun i sv e => ?_, E.inj, fun c h => ?_⟩, fun d v r => Rep.move ht hl d r⟩
  · obtain ⟨u, e2, r⟩ := E.slot i sv e
    refine ⟨u, e2, ?_⟩
    cases sv with
    | sh d => exact Rep.move ht hl d r
    | ow b ds =>
      obtain ⟨c, xs, e3, hh, hm, q⟩ := r
      exact ⟨c, xs, e3, (upd_ne (fun z => by subst z; rw [hp] at hh; cases hh)).trans hh, hm, Reps.move ht hl ds q⟩
    | fn x => exact r
    | sc ns =>
      obtain ⟨c, e3, q⟩ := r
      refine ⟨c, e3, ?_⟩
      rcases q with ⟨ob, q⟩ | q
      · exact .inl ⟨ob, (upd_ne (fun z => by subst z; rw [hp] at q; cases q)).trans q⟩
      · exact .inr q
  · by_cases z : c = p
    · exact ⟨_, by rw [z]; exact upd_same⟩
    · obtain ⟨ob, e⟩ := E.live c h
      exact ⟨ob, (upd_ne z).trans e⟩
theorem tr_over (t : Tr s0 s) {p : Addr} {a b : List (L2.Key × V)} (hp0 : s0.H p = none) (hp : s.H p = some (.dK a)) : Tr s0 ⟨s.M, s.ρ, s.σ, upd s.H p (.dK b)⟩ where
  ext := fun c ob h hw => by
    have e := t.ext c ob h hw
    exact (upd_ne (fun z => by subst z; rw [hp0] at h; cases h)).trans e
  mt := fun c h => by
    obtain ⟨xs, e⟩ := t.mt c h
    exact ⟨xs, (upd_ne (fun z => by subst z; rw [hp] at e; cases e)).trans e⟩
  mnew := t.mnew
  mold := t.mold
  own := t.own
  lent := t.lent
  ln := t.ln
end
section
variable {X : Cx} {W : WX} {s s0 s1 : Sg}
def RPs (X : Cx) (n : Nat) (H0 : Hp) (s : Sg) (kvs : List (L2.Key × D)) (ps : List (V × V)) : Prop := ∃ ks : List (L2.Key × V), ps = ks.map (fun kv => (kV kv.1, kv.2)) ∧ KvR X.K s.H s.M kvs ks ∧ ks.length = n
structure DPp (X : Cx) (W : WX) (ks : List (Option Expr)) (vs : List Expr) (n : Nat) (f : Env → Out (List (L2.Key × D))) : Prop where
  ex : ∃ trs : List (TE × TE), (∀ pos, PPs X pos ks vs trs) ∧ ks.length = n ∧ vs.length = n ∧ ks.all (·.isSome) = true ∧ ∀ s Q, ER X.K X.mg s → Goal X W (RPs X n) s (f s.ρ) Q → tPairs trs s.σ s.H Q
def fPnil : Env → Out (List (L2.Key × D)) := fun ρ => .ok [] ρ
def fPcons (fk fv : Env → Out EV) (g : Env → Out (List (L2.Key × D))) : Env → Out (List (L2.Key × D)) := fun ρ => (fk ρ).bind fun vk ρ1 => match keyEV vk with
  | some k => ((fv ρ1).bind frz).bind fun d ρ2 => (g ρ2).bind fun r ρ3 => .ok ((k, d) :: r) ρ3
  | none => .stuck
theorem key_rel {vk : EV} {u : V} {k : L2.Key} (r : EVR X.K X.mg s vk u) (h : keyEV vk = some k) : u = kV k := by
  unfold keyEV at h
  split at h
  · cases h; exact (ofS_str (Rep.top (show Rep _ _ _ _ _ from r)).s).1
  · cases h; exact ofS_int (Rep.top (show Rep _ _ _ _ _ from r)).s
  · cases h
theorem dpp_nil : DPp X W [] [] 0 fPnil := ⟨[], fun pos => pps_nil, rfl, rfl, rfl, fun s Q E g => g.fin (s2 := s) rfl (Tr.refl E) E ⟨[], rfl, .nil, rfl⟩⟩
theorem dpp_cons {k v : Expr} {ks : List (Option Expr)} {vs : List Expr} {n : Nat} {fk fv : Env → Out EV} {g : Env → Out (List (L2.Key × D))} (hk : DE X W k fk) (hv : DE X W v fv) (hr : DPp X W ks vs n g) : DPp X W (some k :: ks) (v :: vs) (n + 1) (fPcons fk fv g) := by
  obtain ⟨trs, h1, h2, h3, h4, h5⟩ := hr.ex
  refine ⟨(wE X k, wE X v) :: trs, fun pos => pps_cons (pe_w k) (pe_w v) (h1 pos), by simp [h2], by simp [h3], by simpa using h4, fun s Q E gg => ?_⟩
  refine (hk.run s _ E (GoalK.bind0 E gg)).mono fun u H1 ⟨vk, s1, hσ, hH, he, t1, _, E1, ⟨r1, _⟩, g1⟩ => ?_
  clear he
  subst hH
  split at g1
  · rename_i key hkey
    have eu := key_rel r1 hkey
    rw [← hσ]
    refine (hv.data.run s1 _ E1 (GoalK.bind t1 hσ g1)).mono fun y H2 ⟨d, s2, hσ2, hH2, he2, t2, t12, E2, r2, g2⟩ => ?_
    clear he2
    subst hH2
    rw [← hσ2]
    refine h5 s2 _ E2 ((GoalK.bind t2 (hσ2.trans hσ) g2).mono fun ps H3 ⟨kvs, s3, hσ3, hH3, _, t3, t23, E3, ⟨ks3, e3, r3, l3⟩, g3⟩ => ?_)
    subst hH3
    refine g3.fin (hσ3.trans (hσ2.trans hσ)) t3 E3 ⟨(key, y) :: ks3, by rw [e3, eu]; rfl, .cons ⟨rfl, Rep.tr E2 t23 r2⟩ r3, by simp [l3]⟩
  · exact g1.elim
def dsubV (kvs : List (L2.Key × D)) (v : EV) (ρ : Env) : Out EV := match keyEV v with
  | some k => (match valD (mergeD [] kvs) k with
    | some d => .ok (.sh d) ρ
    | none => .stuck)
  | none => .stuck
def fDsub (f : Env → Out (List (L2.Key × D))) (fe : Env → Out EV) : Env → Out EV := fun ρ => (f ρ).bind fun kvs ρ1 => (fe ρ1).bind (dsubV kvs)
theorem de_dsub {ks : List (Option Expr)} {vs : List Expr} {n : Nat} {e : Expr} {f : Env → Out (List (L2.Key × D))} {fe : Env → Out EV} {p pos : Pos} (hu : Cu X) (h : DPp X W ks vs n f) (he : DE X W e fe) (hn0 : 0 < n := by decide) (hn : n ≤ 15 := by decide) (hs : NoSl e := by intro _ _; rfl) : DE X W (.Subscript (.Dict ks vs p) e pos) (fDsub f fe) := by
  obtain ⟨trs, h1, h2, h3, h4, h5⟩ := h.ex
  refine ⟨fun s Q E gg => (pe_dget (by have := hu; unfold Cu at this; omega) (pe_disp (h1 p) h4 (h2.trans h3.symm) (fun z => by rw [z] at h2; simp at h2; omega) (by omega)) (pe_w e) hs).w ?_⟩
  intro q hq
  have m1 : ∀ b, s.M b → s.M b ∨ b = q := fun b h => .inl h
  have m2 : ∀ b, s.M b → s.M b := fun b h => h
  have E1 := er_upd (o := .dK []) E hq m1 m2
  have t1 := tr_upd (o := .dK []) E (Tr.refl E) hq m1 m2
  refine h5 ⟨s.M, s.ρ, s.σ, upd s.H q (.dK [])⟩ _ E1 ((GoalK.bind t1 rfl gg).mono fun ps H2 ⟨kvs, s2, hσ2, hH2, _, t2, t12, E2, ⟨kk, e3, r3, l3⟩, g2⟩ => ?_)
  subst hH2
  have hq2 : s2.H q = some (.dK []) := t12.ext q _ upd_same fun w => by
    obtain ⟨_, xs, z⟩ := E1.own_lst w
    have z : (upd s.H q (.dK [])) q = some (.lst xs) := z
    rw [upd_same] at z; cases z
  refine ⟨hq2, kk, e3, by omega, ?_⟩
  obtain ⟨E3, mv⟩ := er_over (b := mergeK [] kk) E2 hq2
  have t3 := tr_over (b := mergeK [] kk) t2 hq hq2
  have r4 : KvR X.K (upd s2.H q (.dK (mergeK [] kk))) s2.M (mergeD [] kvs) (mergeK [] kk) := pair_imp (fun _ _ h => ⟨h.1, mv _ _ h.2⟩) (KvR.merge r3 .nil)
  have hσ : s2.σ = s.σ := hσ2
  rw [← hσ]
  refine (he.run ⟨s2.M, s2.ρ, s2.σ, upd s2.H q (.dK (mergeK [] kk))⟩ _ E3 (GoalK.bind t3 hσ g2)).mono fun y H4 ⟨v, s4, hσ4, hH4, he4, t4, t34, E4, ⟨rv, _⟩, g4⟩ => ?_
  clear he4
  subst hH4
  unfold dsubV at g4
  split at g4
  · rename_i k hk
    split at g4
    · rename_i d hd
      have hq4 : s4.H q = some (.dK (mergeK [] kk)) := t34.ext q _ upd_same fun w => by
        obtain ⟨_, xs, z⟩ := E3.own_lst w
        have z : (upd s2.H q (.dK (mergeK [] kk))) q = some (.lst xs) := z
        rw [upd_same] at z; cases z
      obtain ⟨w, hw, rw'⟩ := (KvR.tr E3 t34 r4).val hd
      refine ⟨q, w, rfl, ?_, g4.flat E4 t4 (hσ4.trans hσ) rw'⟩
      rw [key_rel rv hk, ← hw]
      exact DGet.k hq4
    · exact g4.elim
  · exact g4.elim
/-! ### a, b = x, y where a name is captured -/
theorem parC_core {es : List Expr} {f : Env → Out (List EV)} {is : List Nat} (h : DEp X W es f) {D : Ends} (E : ER X.K X.mg s) (g : SGoal X W s (dPar is f s.ρ) D) (hz : is.length ≤ 3) : wA X es s.σ s.H fun us H1 => us.length = is.length ∧ us.length ≤ sizeLine ∧ ∀ p, H1 p = none → D.nx (setsP is us s.σ) (upd H1 p (.tup us)) := by
  refine (h.run s _ E (SGoal.bind0 E g)).mono fun us H2 ⟨vs, s2, hσ, hH, _, t, _, E2, r, g2⟩ => ?_
  subst hH
  split at g2
  · rename_i ρ2 e2
    have hl : ∀ (is : List Nat) (vs : List EV) (ρ ρ' : Env), stosP is vs ρ = some ρ' → vs.length = is.length := fun is => by
      induction is with
      | nil => intro vs ρ ρ' h; cases vs <;> simp [stosP] at h ⊢
      | cons i is ih =>
        intro vs ρ ρ' h
        cases vs with
        | nil => simp [stosP] at h
        | cons v vs =>
          simp only [stosP] at h
          split at h
          · simp [ih _ _ _ h]
          · cases h
    have l1 : us.length = is.length := by rw [← r.all.length]; exact hl _ _ _ _ e2
    refine ⟨l1, by rw [l1, sizeLine_eq]; omega, fun p hp => ?_⟩
    have m1 : ∀ b, s2.M b → s2.M b ∨ b = p := fun b h => .inl h
    have m2 : ∀ b, s2.M b → s2.M b := fun b h => h
    have E3 := er_upd (o := .tup us) E2 hp m1 m2
    have t23 := tr_upd (o := .tup us) E2 (Tr.refl E2) hp m1 m2
    have pr : Paired (fun v u => EVR X.K X.mg ⟨s2.M, s2.ρ, s2.σ, upd s2.H p (.tup us)⟩ v u ∨ ∃ x, v = .bo x) vs us := pair_imp (fun _ _ h => .inl (EVR.tr E2 t23 rfl h)) r.all
    obtain ⟨E', t'⟩ := stos_ok (s2 := ⟨s2.M, s2.ρ, s2.σ, upd s2.H p (.tup us)⟩) E E3 (t.trans t23) pr r.new r.apart e2
    rw [← hσ]
    exact g2 _ s2.M _ t' E'
  · exact g2.elim
theorem ds_parC2 {i0 i1 : Nat} {x y : Str} {a b : Expr} {f : Env → Out (List EV)} {px py pt pt2 pos : Pos} {kt k2 : Nat} (C : DC X W) (h : DEp X W [a, b] f) (hi : X.N[i0]? = some x) (hj : X.N[i1]? = some y) (hx : Loc X.env.scope x) (hy : Loc X.env.scope y)
    (fx : X.fn x = true ∨ X.env.scope.names.lookup x = some .local) (fy : X.fn y = true ∨ X.env.scope.names.lookup y = some .local)
    (hs : swapsWithSole [.Tuple [.Name x px, .Name y py] kt pt] (.Tuple [a, b] k2 pt2) pos.line X.env = pure false := by rfl) (hw : swappedStores [.Tuple [.Name x px, .Name y py] kt pt] (.Tuple [a, b] k2 pt2) X.env = pure none := by rfl) :
    DS X W (.Assign [.Tuple [.Name x px, .Name y py] kt pt] (.Tuple [a, b] k2 pt2) pos) (dPar [i0, i1] f) := by
  refine ⟨fun s D E g => (ps_asg (pe_tup (pa_w _)) (pg_tup C.calm (pgs_cons (pg_name C.nd hi hx fx) (pgs_cons (pg_name C.nd hj hy fy) pgs_nil)) (n := 2)) hs hw).w ?_⟩
  refine (parC_core h E g (by simp)).mono fun us H1 ⟨hl, hz, q⟩ => ⟨hz, fun p hp => ?_⟩
  match us, hl, q with
  | [u, v], _, q => exact ⟨p, [u, v], rfl, .inl (.inl upd_same), rfl, u, [v], rfl, v, [], rfl, rfl, q p hp⟩
theorem ds_parC3 {i0 i1 i2 : Nat} {x y z : Str} {a b c : Expr} {f : Env → Out (List EV)} {px py pz pt pt2 pos : Pos} {kt k2 : Nat} (C : DC X W) (h : DEp X W [a, b, c] f) (hi : X.N[i0]? = some x) (hj : X.N[i1]? = some y) (hk : X.N[i2]? = some z) (hx : Loc X.env.scope x) (hy : Loc X.env.scope y) (hz : Loc X.env.scope z)
    (fx : X.fn x = true ∨ X.env.scope.names.lookup x = some .local) (fy : X.fn y = true ∨ X.env.scope.names.lookup y = some .local) (fz : X.fn z = true ∨ X.env.scope.names.lookup z = some .local)
    (hs : swapsWithSole [.Tuple [.Name x px, .Name y py, .Name z pz] kt pt] (.Tuple [a, b, c] k2 pt2) pos.line X.env = pure false := by rfl) (hw : swappedStores [.Tuple [.Name x px, .Name y py, .Name z pz] kt pt] (.Tuple [a, b, c] k2 pt2) X.env = pure none := by rfl) :
    DS X W (.Assign [.Tuple [.Name x px, .Name y py, .Name z pz] kt pt] (.Tuple [a, b, c] k2 pt2) pos) (dPar [i0, i1, i2] f) := by
  refine ⟨fun s D E g => (ps_asg (pe_tup (pa_w _)) (pg_tup C.calm (pgs_cons (pg_name C.nd hi hx fx) (pgs_cons (pg_name C.nd hj hy fy) (pgs_cons (pg_name C.nd hk hz fz) pgs_nil))) (n := 3)) hs hw).w ?_⟩
  refine (parC_core h E g (by simp)).mono fun us H1 ⟨hl, hz, q⟩ => ⟨hz, fun p hp => ?_⟩
  match us, hl, q with
  | [u, v, r], _, q => exact ⟨p, [u, v, r], rfl, .inl (.inl upd_same), rfl, u, [v, r], rfl, v, [r], rfl, r, [], rfl, rfl, q p hp⟩
/-! ### tables of defs -/
theorem callee_mono {x : Str} {j k n : Nat} {g : FD} (c : Callee X x j n g) (h : j ≤ k) : Callee X x k n g := by
  obtain ⟨f, fd, ps, h1, h2, h3⟩ := c.ex
  exact ⟨f, fd, ps, h1, h2.mono h, h3⟩
theorem tab_nil {y : Str} {k n : Nat} {g : FD} (h : ([] : Tab).lookup y = some (n, g)) : Callee X y k n g := by cases h
theorem tab_cons {a y : Str} {k m n : Nat} {g g' : FD} {T : Tab} (c : Callee X a k m g') (r : T.lookup y = some (n, g) → Callee X y k n g) (h : ((a, m, g') :: T : Tab).lookup y = some (n, g)) : Callee X y k n g := by
  simp only [List.lookup] at h
  split at h
  · rename_i e
    cases h
    have e : y = a := by simpa using e
    rw [e]; exact c
  · exact r h
end
structure CalleeKG (P : Program) (w : World) (K : PySem.W.Frag) (mg : Str → Option Value) (base : Heap) (x : Str) (k : Nat) (n : Nat) (g : FD) (ks : List Str) (perm : List Nat) : Prop where
  ex : ∃ (f : Addr) (fd : FuncData) (ps : List Str), ps.length = n ∧ FnG P w K mg base k f fd ps (spD K mg n g) ∧ mg x = some (.ref f) ∧ PySem.W.keepIn K (.ref f) = true ∧
    ∀ ws : List Value, ws.length = n → bindArgs fd ⟨[], ks.zip ws⟩ = pure (ps.zip (permL perm ws))
end DL
set_option maxHeartbeats 4000000
namespace K87
open PySem PySem.Spec PyProof.Rows L2 DL

def topS (i : Nat) : Stmt := PySem.Challenge.pw_spelledonce_k87_whole_overlaps_kept.main.body.getD i (.Pass ⟨0, 0, 0, 0⟩)
structure Mf (mg : Str → Option Value) : Prop where
  z_abs : mg "abs" = none
  z_all : mg "all" = none
  z_any : mg "any" = none
  z_bool : mg "bool" = none
  z_divmod : mg "divmod" = none
  z_enumerate : mg "enumerate" = none
  z_int : mg "int" = none
  z_isinstance : mg "isinstance" = none
  z_len : mg "len" = none
  z_list : mg "list" = none
  z_max : mg "max" = none
  z_min : mg "min" = none
  z_range : mg "range" = none
  z_repr : mg "repr" = none
  z_sorted : mg "sorted" = none
  z_str : mg "str" = none
  z_tuple : mg "tuple" = none
  v_ALL : ∃ t, mg "ALL" = some (.str "abc" t)
  v_CUBES : ∃ t, mg "CUBES" = some (.str "cubes" t)
  v_MOST_IMAGE : ∃ t, mg "MOST_IMAGE" = some (.int 12 t)
  v_OVERLAPS : ∃ t, mg "OVERLAPS" = some (.str "overlaps" t)
  v_SQUARES : ∃ t, mg "SQUARES" = some (.str "squares" t)
  v_TEST : ∃ t, mg "TEST" = some (.str "abbabaab" t)
def nm_is_overlap_at : Str := "is_overlap_at"
/-! is_overlap_at -/
abbrev s_is_overlap_at : Stmt := topS 27
abbrev N_is_overlap_at : List Str := ["word", "at", "period", "end"]
theorem sc_is_overlap_at : FnScope N_is_overlap_at ["word", "at", "period"] (defScope s_is_overlap_at) := ⟨rfl, rfl, rfl, by decide +kernel, rfl, by decide +kernel, by decide +kernel⟩
def b_is_overlap_at : DL.Env → Out Fl := fSeq (dSet 3 (fBin opAdd (fBin opAdd (fVar 1) (fBin opMul (fC (.int 2)) (fVar 2))) (fC (.int 1)))) (fSeq (fRet (vAnd (fBin opLe (fVar 3) (fCB opLen (fCons (fVar 0) (fNil)))) (fBin opEq (fSl (fVar 0) (fPart (fVar 1)) (fPart (fBin opSub (fVar 3) (fVar 2)))) (fSl (fVar 0) (fPart (fBin opAdd (fVar 1) (fVar 2))) (fPart (fVar 3)))))) (fNx))
def g_is_overlap_at : FD := fnBody 4 b_is_overlap_at
theorem body_is_overlap_at {X : Cx} {W : WX} (hN : X.N = N_is_overlap_at) (hS : X.env.scope = defScope s_is_overlap_at) (hF : X.fn = fun _ => true) (M : Mf X.mg)   (C : DC X W) (hu : Cu X) (hr : Room 0 X.A) : DSs X W (defBody s_is_overlap_at) b_is_overlap_at := by
  obtain ⟨prog, w, K, mg, base, A, N, s0, H0, env, outer, stack, ex, fn, calm, pn, xe⟩ := X
  obtain ⟨scope, locals, globals, cells, qual, func, code, frame, builtins⟩ := env
  cases (show N = N_is_overlap_at from hN)
  cases (show scope = defScope s_is_overlap_at from hS)
  cases (show fn = fun _ => true from hF)
  exact ds_cons (ds_set (i := 3) (de_bin do_add (de_bin do_add (de_var (i := 1) rfl (.inl rfl)) (de_bin do_mul (de_int) (de_var (i := 2) rfl (.inl rfl)))) (de_int)) C.nd rfl (.inl rfl) rfl (.inl rfl)) (ds_cons (ds_ret (de_and (de_cmp (do_le hu) (de_var (i := 3) rfl (.inl rfl)) (de_cb df_len (des_cons (de_var (i := 0) rfl (.inl rfl)) (des_nil)) rfl M.z_len (by first | exact PyProof.Rows.boot_len | exact PySem.boot_len))) (de_one (de_cmp (do_eq hu) (de_sl (de_var (i := 0) rfl (.inl rfl)) (dp_some (de_var (i := 1) rfl (.inl rfl))) (dp_some (de_bin do_sub (de_var (i := 3) rfl (.inl rfl)) (de_var (i := 2) rfl (.inl rfl))))) (de_sl (de_var (i := 0) rfl (.inl rfl)) (dp_some (de_bin do_add (de_var (i := 1) rfl (.inl rfl)) (de_var (i := 2) rfl (.inl rfl)))) (dp_some (de_var (i := 3) rfl (.inl rfl)))))))) (ds_nil))
theorem ok_is_overlap_at {P : Program} {w : World} {K : PySem.W.Frag} {mg : Str → Option Value} {base : Heap} {f : Addr} {fd : FuncData} (F : Fun K "is_overlap_at" "is_overlap_at" s_is_overlap_at f fd) (M : Mf mg)   : FnG P w K mg base 1 f fd ["word", "at", "period"] (spD K mg 3 g_is_overlap_at) :=
  fng_body F sc_is_overlap_at fun X W h1 h2 h3 h4 h5 h6 h7 h8 C hr => by subst h1 h2 h3 h4 h5; exact body_is_overlap_at h6 h7 h8 M   C (cu_of hr) hr
/-! image_of -/
abbrev s_image_of : Stmt := topS 15
abbrev N_image_of : List Str := ["images", "word", "letter"]
theorem sc_image_of : FnScope N_image_of ["images", "word"] (defScope s_image_of) := ⟨rfl, rfl, rfl, by decide +kernel, rfl, by decide +kernel, by decide +kernel⟩
def b_image_of : DL.Env → Out Fl := fSeq (fRet (fMt "str" opJoin (fC (.str "")) (fCons (fLc (dIt (fVar 1)) (gN 2) (fYes) (fIx (fIx (fVar 0) (fC (.int 1))) (fMt "str" opSIndex (fC (.str "abc")) (fCons (fVar 2) (fNil)))) [2]) (fNil)))) (fNx)
def g_image_of : FD := fnBody 3 b_image_of
theorem body_image_of {X : Cx} {W : WX} (hN : X.N = N_image_of) (hS : X.env.scope = defScope s_image_of) (hF : X.fn = fun _ => true) (M : Mf X.mg)   (C : DC X W) (hu : Cu X) (hr : Room 0 X.A) : DSs X W (defBody s_image_of) b_image_of := by
  obtain ⟨t_ALL, v_ALL⟩ := M.v_ALL
  obtain ⟨prog, w, K, mg, base, A, N, s0, H0, env, outer, stack, ex, fn, calm, pn, xe⟩ := X
  obtain ⟨scope, locals, globals, cells, qual, func, code, frame, builtins⟩ := env
  cases (show N = N_image_of from hN)
  cases (show scope = defScope s_image_of from hS)
  cases (show fn = fun _ => true from hF)
  exact ds_cons (ds_ret (de_mt (.inl rfl) PySem.F.plainAttrs_str PySem.F.slot_str_join PySem.F.type_str_join dm_join (de_str) (des_cons (de_lc (own := [("letter", 2)]) C (by first | (change blkC N_image_of (defScope s_image_of) _ _ = true; decide +kernel) | rfl) (di_data (de_var (i := 1) rfl (.inl rfl))) (fun st0 H0 a0 cl0 fp0 => dg_name (i := 2) (dc_blk C _ st0 H0 a0 cl0 fp0).nd rfl (.inl rfl) (.inr rfl)) (fun st0 H0 a0 cl0 fp0 => dts_nil) (fun st0 H0 a0 cl0 fp0 => de_ix (de_ix (de_var (i := 0) rfl (.inr (.inl rfl))) (de_int)) (de_mt (.inl rfl) PySem.F.plainAttrs_str PySem.F.slot_str_index PySem.F.type_str_index dm_sindex (de_globS rfl v_ALL) (des_cons (de_var (i := 2) rfl (.inl rfl)) (des_nil))))) (des_nil)))) (ds_nil)
theorem ok_image_of {P : Program} {w : World} {K : PySem.W.Frag} {mg : Str → Option Value} {base : Heap} {f : Addr} {fd : FuncData} (F : Fun K "image_of" "image_of" s_image_of f fd) (M : Mf mg)   : FnG P w K mg base 1 f fd ["images", "word"] (spD K mg 2 g_image_of) :=
  fng_body F sc_image_of fun X W h1 h2 h3 h4 h5 h6 h7 h8 C hr => by subst h1 h2 h3 h4 h5; exact body_image_of h6 h7 h8 M   C (cu_of hr) hr
/-! is_integer -/
abbrev s_is_integer : Stmt := topS 1
abbrev N_is_integer : List Str := ["value"]
theorem sc_is_integer : FnScope N_is_integer ["value"] (defScope s_is_integer) := ⟨rfl, rfl, rfl, by decide +kernel, rfl, by decide +kernel, by decide +kernel⟩
def b_is_integer : DL.Env → Out Fl := fSeq (fRet (vAnd (fIsi "int" (fVar 0)) (vNot (fIsi "bool" (fVar 0))))) (fNx)
def g_is_integer : FD := fnBody 1 b_is_integer
theorem body_is_integer {X : Cx} {W : WX} (hN : X.N = N_is_integer) (hS : X.env.scope = defScope s_is_integer) (hF : X.fn = fun _ => true) (M : Mf X.mg)   (C : DC X W) (hu : Cu X) (hr : Room 0 X.A) : DSs X W (defBody s_is_integer) b_is_integer := by
  obtain ⟨prog, w, K, mg, base, A, N, s0, H0, env, outer, stack, ex, fn, calm, pn, xe⟩ := X
  obtain ⟨scope, locals, globals, cells, qual, func, code, frame, builtins⟩ := env
  cases (show N = N_is_integer from hN)
  cases (show scope = defScope s_is_integer from hS)
  cases (show fn = fun _ => true from hF)
  exact ds_cons (ds_ret (de_and (de_isi (T := "int") (by decide) (de_var (i := 0) rfl (.inl rfl)) rfl M.z_isinstance rfl M.z_int (by first | exact PyProof.Rows.boot_int | exact PySem.boot_int)) (de_one (de_not (de_isi (T := "bool") (by decide) (de_var (i := 0) rfl (.inl rfl)) rfl M.z_isinstance rfl M.z_bool (by first | exact PyProof.Rows.boot_bool | exact PySem.boot_bool)))))) (ds_nil)
theorem ok_is_integer {P : Program} {w : World} {K : PySem.W.Frag} {mg : Str → Option Value} {base : Heap} {f : Addr} {fd : FuncData} (F : Fun K "is_integer" "is_integer" s_is_integer f fd) (M : Mf mg)   : FnG P w K mg base 1 f fd ["value"] (spD K mg 1 g_is_integer) :=
  fng_body F sc_is_integer fun X W h1 h2 h3 h4 h5 h6 h7 h8 C hr => by subst h1 h2 h3 h4 h5; exact body_is_integer h6 h7 h8 M   C (cu_of hr) hr
/-! is_count -/
abbrev s_is_count : Stmt := topS 2
abbrev N_is_count : List Str := ["value"]
theorem sc_is_count : FnScope N_is_count ["value"] (defScope s_is_count) := ⟨rfl, rfl, rfl, by decide +kernel, rfl, by decide +kernel, by decide +kernel⟩
def b_is_count : DL.Env → Out Fl := fSeq (fRet (vAnd (fCall 1 g_is_integer (fCons (fVar 0) (fNil))) (fBin opGe (fVar 0) (fC (.int 0))))) (fNx)
def g_is_count : FD := fnBody 1 b_is_count
theorem body_is_count {X : Cx} {W : WX} (hN : X.N = N_is_count) (hS : X.env.scope = defScope s_is_count) (hF : X.fn = fun _ => true) (M : Mf X.mg) (c_is_integer : Callee X "is_integer" 1 1 g_is_integer)  (C : DC X W) (hu : Cu X) (hr : Room 1 X.A) : DSs X W (defBody s_is_count) b_is_count := by
  obtain ⟨prog, w, K, mg, base, A, N, s0, H0, env, outer, stack, ex, fn, calm, pn, xe⟩ := X
  obtain ⟨scope, locals, globals, cells, qual, func, code, frame, builtins⟩ := env
  cases (show N = N_is_count from hN)
  cases (show scope = defScope s_is_count from hS)
  cases (show fn = fun _ => true from hF)
  exact ds_cons (ds_ret (de_and (de_call C ⟨c_is_integer.ex⟩ (hr.mono (by decide)) rfl (des_cons (de_var (i := 0) rfl (.inl rfl)) (des_nil))) (de_one (de_cmp (do_ge hu) (de_var (i := 0) rfl (.inl rfl)) (de_int))))) (ds_nil)
theorem ok_is_count {P : Program} {w : World} {K : PySem.W.Frag} {mg : Str → Option Value} {base : Heap} {f : Addr} {fd : FuncData} (F : Fun K "is_count" "is_count" s_is_count f fd) (M : Mf mg) (c_is_integer : CalleeG P w K mg base "is_integer" 1 1 g_is_integer)  : FnG P w K mg base 2 f fd ["value"] (spD K mg 1 g_is_count) :=
  fng_body F sc_is_count fun X W h1 h2 h3 h4 h5 h6 h7 h8 C hr => by subst h1 h2 h3 h4 h5; exact body_is_count h6 h7 h8 M ⟨c_is_integer.ex⟩  C (cu_of hr) hr
/-! letters_of -/
abbrev s_letters_of : Stmt := topS 14
abbrev N_letters_of : List Str := ["images"]
theorem sc_letters_of : FnScope N_letters_of ["images"] (defScope s_letters_of) := ⟨rfl, rfl, rfl, by decide +kernel, rfl, by decide +kernel, by decide +kernel⟩
def b_letters_of : DL.Env → Out Fl := fSeq (fRet (fCB opLen (fCons (fIx (fVar 0) (fC (.int 1))) (fNil)))) (fNx)
def g_letters_of : FD := fnBody 1 b_letters_of
theorem body_letters_of {X : Cx} {W : WX} (hN : X.N = N_letters_of) (hS : X.env.scope = defScope s_letters_of) (hF : X.fn = fun _ => true) (M : Mf X.mg)   (C : DC X W) (hu : Cu X) (hr : Room 0 X.A) : DSs X W (defBody s_letters_of) b_letters_of := by
  obtain ⟨prog, w, K, mg, base, A, N, s0, H0, env, outer, stack, ex, fn, calm, pn, xe⟩ := X
  obtain ⟨scope, locals, globals, cells, qual, func, code, frame, builtins⟩ := env
  cases (show N = N_letters_of from hN)
  cases (show scope = defScope s_letters_of from hS)
  cases (show fn = fun _ => true from hF)
  exact ds_cons (ds_ret (de_cb df_len (des_cons (de_ix (de_var (i := 0) rfl (.inl rfl)) (de_int)) (des_nil)) rfl M.z_len (by first | exact PyProof.Rows.boot_len | exact PySem.boot_len))) (ds_nil)
theorem ok_letters_of {P : Program} {w : World} {K : PySem.W.Frag} {mg : Str → Option Value} {base : Heap} {f : Addr} {fd : FuncData} (F : Fun K "letters_of" "letters_of" s_letters_of f fd) (M : Mf mg)   : FnG P w K mg base 1 f fd ["images"] (spD K mg 1 g_letters_of) :=
  fng_body F sc_letters_of fun X W h1 h2 h3 h4 h5 h6 h7 h8 C hr => by subst h1 h2 h3 h4 h5; exact body_letters_of h6 h7 h8 M   C (cu_of hr) hr
/-! over -/
abbrev s_over : Stmt := topS 9
abbrev N_over : List Str := ["value", "letters", "letter"]
theorem sc_over : FnScope N_over ["value", "letters"] (defScope s_over) := ⟨rfl, rfl, rfl, by decide +kernel, rfl, by decide +kernel, by decide +kernel⟩
def b_over : DL.Env → Out Fl := fSeq (fRet (vAnd (fIsi "str" (fVar 0)) (fCB opAll (fCons (fLc (dIt (fVar 0)) (gN 2) (fYes) (fBin (opIn false) (fVar 2) (fSl (fC (.str "abc")) (fNo) (fPart (fVar 1)))) [2]) (fNil))))) (fNx)
def g_over : FD := fnBody 3 b_over
theorem body_over {X : Cx} {W : WX} (hN : X.N = N_over) (hS : X.env.scope = defScope s_over) (hF : X.fn = fun _ => true) (M : Mf X.mg)   (C : DC X W) (hu : Cu X) (hr : Room 0 X.A) : DSs X W (defBody s_over) b_over := by
  obtain ⟨t_ALL, v_ALL⟩ := M.v_ALL
  obtain ⟨prog, w, K, mg, base, A, N, s0, H0, env, outer, stack, ex, fn, calm, pn, xe⟩ := X
  obtain ⟨scope, locals, globals, cells, qual, func, code, frame, builtins⟩ := env
  cases (show N = N_over from hN)
  cases (show scope = defScope s_over from hS)
  cases (show fn = fun _ => true from hF)
  exact ds_cons (ds_ret (de_and (de_isi (T := "str") (by decide) (de_var (i := 0) rfl (.inl rfl)) rfl M.z_isinstance rfl M.z_str (by first | exact PyProof.Rows.boot_str | exact PySem.boot_str)) (de_one (de_cb (df_all C.calm) (des_cons (de_lc (own := [("letter", 2)]) C (by first | (change blkC N_over (defScope s_over) _ _ = true; decide +kernel) | rfl) (di_data (de_var (i := 0) rfl (.inl rfl))) (fun st0 H0 a0 cl0 fp0 => dg_name (i := 2) (dc_blk C _ st0 H0 a0 cl0 fp0).nd rfl (.inl rfl) (.inr rfl)) (fun st0 H0 a0 cl0 fp0 => dts_nil) (fun st0 H0 a0 cl0 fp0 => de_cmp (do_in hu) (de_var (i := 2) rfl (.inl rfl)) (de_sl (de_globS rfl v_ALL) (dp_none) (dp_some (de_var (i := 1) rfl (.inr (.inl rfl))))))) (des_nil)) rfl M.z_all (by first | exact PyProof.Rows.boot_all | exact PySem.boot_all))))) (ds_nil)
theorem ok_over {P : Program} {w : World} {K : PySem.W.Frag} {mg : Str → Option Value} {base : Heap} {f : Addr} {fd : FuncData} (F : Fun K "over" "over" s_over f fd) (M : Mf mg)   : FnG P w K mg base 1 f fd ["value", "letters"] (spD K mg 2 g_over) :=
  fng_body F sc_over fun X W h1 h2 h3 h4 h5 h6 h7 h8 C hr => by subst h1 h2 h3 h4 h5; exact body_over h6 h7 h8 M   C (cu_of hr) hr
/-! images_are_right -/
abbrev s_images_are_right : Stmt := topS 10
abbrev N_images_are_right : List Str := ["value", "image"]
theorem sc_images_are_right : FnScope N_images_are_right ["value"] (defScope s_images_are_right) := ⟨rfl, rfl, rfl, by decide +kernel, rfl, by decide +kernel, by decide +kernel⟩
def b_images_are_right : DL.Env → Out Fl := fSeq (dIf (tOr' (tNot' (fTru (fIsi "tuple" (fVar 0)))) (tOr' (fBool (fBin opNe (fCB opLen (fCons (fVar 0) (fNil))) (fC (.int 2)))) (tOr' (tNot' (fTru (fIsi "str" (fIx (fVar 0) (fC (.int 0)))))) (fBool (fBin opNe (fIx (fVar 0) (fC (.int 0))) (fC (.str "images"))))))) (fSeq (fRet (fC (.bool false))) (fNx)) (fNx)) (fSeq (dIf (tOr' (tNot' (fTru (fIsi "tuple" (fIx (fVar 0) (fC (.int 1)))))) (tNot' (fBool (fChain opLe opLe (fC (.int 1)) (fCB opLen (fCons (fIx (fVar 0) (fC (.int 1))) (fNil))) (fCB opLen (fCons (fC (.str "abc")) (fNil))))))) (fSeq (fRet (fC (.bool false))) (fNx)) (fNx)) (fSeq (fRet (fCB opAll (fCons (fLc (dIt (fIx (fVar 0) (fC (.int 1)))) (gN 1) (fYes) (vAnd (fCall 2 g_over (fCons (fVar 1) (fCons (fCB opLen (fCons (fIx (fVar 0) (fC (.int 1))) (fNil))) (fNil)))) (fChain opLe opLe (fC (.int 1)) (fCB opLen (fCons (fVar 1) (fNil))) (fC (.int 12)))) [1]) (fNil)))) (fNx)))
def g_images_are_right : FD := fnBody 2 b_images_are_right
theorem body_images_are_right {X : Cx} {W : WX} (hN : X.N = N_images_are_right) (hS : X.env.scope = defScope s_images_are_right) (hF : X.fn = fun _ => true) (M : Mf X.mg) (c_over : Callee X "over" 1 2 g_over)  (C : DC X W) (hu : Cu X) (hr : Room 1 X.A) : DSs X W (defBody s_images_are_right) b_images_are_right := by
  obtain ⟨t_ALL, v_ALL⟩ := M.v_ALL
  obtain ⟨t_MOST_IMAGE, v_MOST_IMAGE⟩ := M.v_MOST_IMAGE
  obtain ⟨prog, w, K, mg, base, A, N, s0, H0, env, outer, stack, ex, fn, calm, pn, xe⟩ := X
  obtain ⟨scope, locals, globals, cells, qual, func, code, frame, builtins⟩ := env
  cases (show N = N_images_are_right from hN)
  cases (show scope = defScope s_images_are_right from hS)
  cases (show fn = fun _ => true from hF)
  exact ds_cons (ds_if (DW.pt (dw_or (dt_not (dt_truth (de_isi (T := "tuple") (by decide) (de_var (i := 0) rfl (.inr (.inl rfl))) rfl M.z_isinstance rfl M.z_tuple (by first | exact PyProof.Rows.boot_tuple | exact PySem.boot_tuple)))) (dw_or (dt_cmp (do_ne hu) (de_cb df_len (des_cons (de_var (i := 0) rfl (.inr (.inl rfl))) (des_nil)) rfl M.z_len (by first | exact PyProof.Rows.boot_len | exact PySem.boot_len)) (de_int)) (dw_or (dt_not (dt_truth (de_isi (T := "str") (by decide) (de_ix (de_var (i := 0) rfl (.inr (.inl rfl))) (de_int)) rfl M.z_isinstance rfl M.z_str (by first | exact PyProof.Rows.boot_str | exact PySem.boot_str)))) (dw_or1 (dt_cmp (do_ne hu) (de_ix (de_var (i := 0) rfl (.inr (.inl rfl))) (de_int)) (de_str))))))) (ds_cons (ds_ret (de_bool)) (ds_nil)) (ds_nil)) (ds_cons (ds_if (DW.pt (dw_or (dt_not (dt_truth (de_isi (T := "tuple") (by decide) (de_ix (de_var (i := 0) rfl (.inr (.inl rfl))) (de_int)) rfl M.z_isinstance rfl M.z_tuple (by first | exact PyProof.Rows.boot_tuple | exact PySem.boot_tuple)))) (dw_or1 (dt_not (dt_chain (do_le hu) (do_le hu) (de_int) (de_cb df_len (des_cons (de_ix (de_var (i := 0) rfl (.inr (.inl rfl))) (de_int)) (des_nil)) rfl M.z_len (by first | exact PyProof.Rows.boot_len | exact PySem.boot_len)) (de_cb df_len (des_cons (de_globS rfl v_ALL) (des_nil)) rfl M.z_len (by first | exact PyProof.Rows.boot_len | exact PySem.boot_len))))))) (ds_cons (ds_ret (de_bool)) (ds_nil)) (ds_nil)) (ds_cons (ds_ret (de_cb (df_all C.calm) (des_cons (de_lc (own := [("image", 1)]) C (by first | (change blkC N_images_are_right (defScope s_images_are_right) _ _ = true; decide +kernel) | rfl) (di_data (de_ix (de_var (i := 0) rfl (.inr (.inl rfl))) (de_int))) (fun st0 H0 a0 cl0 fp0 => dg_name (i := 1) (dc_blk C _ st0 H0 a0 cl0 fp0).nd rfl (.inl rfl) (.inr rfl)) (fun st0 H0 a0 cl0 fp0 => dts_nil) (fun st0 H0 a0 cl0 fp0 => de_and (de_call (dc_blk C _ st0 H0 a0 cl0 fp0) ⟨c_over.ex⟩ (hr.mono (by decide)) rfl (des_cons (de_var (i := 1) rfl (.inl rfl)) (des_cons (de_cb df_len (des_cons (de_ix (de_var (i := 0) rfl (.inr (.inl rfl))) (de_int)) (des_nil)) rfl M.z_len (by first | exact PyProof.Rows.boot_len | exact PySem.boot_len)) (des_nil)))) (de_one (de_chain (do_le hu) (do_le hu) (de_int) (de_cb df_len (des_cons (de_var (i := 1) rfl (.inl rfl)) (des_nil)) rfl M.z_len (by first | exact PyProof.Rows.boot_len | exact PySem.boot_len)) (de_globI rfl v_MOST_IMAGE))))) (des_nil)) rfl M.z_all (by first | exact PyProof.Rows.boot_all | exact PySem.boot_all))) (ds_nil)))
theorem ok_images_are_right {P : Program} {w : World} {K : PySem.W.Frag} {mg : Str → Option Value} {base : Heap} {f : Addr} {fd : FuncData} (F : Fun K "images_are_right" "images_are_right" s_images_are_right f fd) (M : Mf mg) (c_over : CalleeG P w K mg base "over" 1 2 g_over)  : FnG P w K mg base 2 f fd ["value"] (spD K mg 1 g_images_are_right) :=
  fng_body F sc_images_are_right fun X W h1 h2 h3 h4 h5 h6 h7 h8 C hr => by subst h1 h2 h3 h4 h5; exact body_images_are_right h6 h7 h8 M ⟨c_over.ex⟩  C (cu_of hr) hr
/-! check_images -/
abbrev s_check_images : Stmt := topS 11
abbrev N_check_images : List Str := ["images"]
theorem sc_check_images : FnScope N_check_images ["images"] (defScope s_check_images) := ⟨rfl, rfl, rfl, by decide +kernel, rfl, by decide +kernel, by decide +kernel⟩
def b_check_images : DL.Env → Out Fl := fSeq (dIf (tNot' (fTru (fCall 1 g_images_are_right (fCons (fVar 0) (fNil))))) (fStuck) (fNx)) (fNx)
def g_check_images : FD := fnBody 1 b_check_images
theorem body_check_images {X : Cx} {W : WX} (hN : X.N = N_check_images) (hS : X.env.scope = defScope s_check_images) (hF : X.fn = fun _ => true) (M : Mf X.mg) (c_images_are_right : Callee X "images_are_right" 2 1 g_images_are_right)  (C : DC X W) (hu : Cu X) (hr : Room 2 X.A) : DSs X W (defBody s_check_images) b_check_images := by
  obtain ⟨prog, w, K, mg, base, A, N, s0, H0, env, outer, stack, ex, fn, calm, pn, xe⟩ := X
  obtain ⟨scope, locals, globals, cells, qual, func, code, frame, builtins⟩ := env
  cases (show N = N_check_images from hN)
  cases (show scope = defScope s_check_images from hS)
  cases (show fn = fun _ => true from hF)
  exact ds_cons (ds_if (dt_not (dt_truth (de_call C ⟨c_images_are_right.ex⟩ (hr.mono (by decide)) rfl (des_cons (de_var (i := 0) rfl (.inl rfl)) (des_nil))))) (dss_never) (ds_nil)) (ds_nil)
theorem ok_check_images {P : Program} {w : World} {K : PySem.W.Frag} {mg : Str → Option Value} {base : Heap} {f : Addr} {fd : FuncData} (F : Fun K "check_images" "check_images" s_check_images f fd) (M : Mf mg) (c_images_are_right : CalleeG P w K mg base "images_are_right" 2 1 g_images_are_right)  : FnG P w K mg base 3 f fd ["images"] (spD K mg 1 g_check_images) :=
  fng_body F sc_check_images fun X W h1 h2 h3 h4 h5 h6 h7 h8 C hr => by subst h1 h2 h3 h4 h5; exact body_check_images h6 h7 h8 M ⟨c_images_are_right.ex⟩  C (cu_of hr) hr
/-! check_two -/
abbrev s_check_two : Stmt := topS 29
abbrev N_check_two : List Str := ["images"]
theorem sc_check_two : FnScope N_check_two ["images"] (defScope s_check_two) := ⟨rfl, rfl, rfl, by decide +kernel, rfl, by decide +kernel, by decide +kernel⟩
def b_check_two : DL.Env → Out Fl := fSeq (dExpr (fCall 1 g_check_images (fCons (fVar 0) (fNil)))) (fSeq (dIf (fBool (fBin opNe (fCall 1 g_letters_of (fCons (fVar 0) (fNil))) (fC (.int 2)))) (fStuck) (fNx)) (fNx))
def g_check_two : FD := fnBody 1 b_check_two
theorem body_check_two {X : Cx} {W : WX} (hN : X.N = N_check_two) (hS : X.env.scope = defScope s_check_two) (hF : X.fn = fun _ => true) (M : Mf X.mg) (c_letters_of : Callee X "letters_of" 1 1 g_letters_of) (c_check_images : Callee X "check_images" 3 1 g_check_images)  (C : DC X W) (hu : Cu X) (hr : Room 3 X.A) : DSs X W (defBody s_check_two) b_check_two := by
  obtain ⟨prog, w, K, mg, base, A, N, s0, H0, env, outer, stack, ex, fn, calm, pn, xe⟩ := X
  obtain ⟨scope, locals, globals, cells, qual, func, code, frame, builtins⟩ := env
  cases (show N = N_check_two from hN)
  cases (show scope = defScope s_check_two from hS)
  cases (show fn = fun _ => true from hF)
  exact ds_cons (ds_expr (de_call C ⟨c_check_images.ex⟩ (hr.mono (by decide)) rfl (des_cons (de_var (i := 0) rfl (.inl rfl)) (des_nil)))) (ds_cons (ds_if (dt_cmp (do_ne hu) (de_call C ⟨c_letters_of.ex⟩ (hr.mono (by decide)) rfl (des_cons (de_var (i := 0) rfl (.inl rfl)) (des_nil))) (de_int)) (dss_never) (ds_nil)) (ds_nil))
theorem ok_check_two {P : Program} {w : World} {K : PySem.W.Frag} {mg : Str → Option Value} {base : Heap} {f : Addr} {fd : FuncData} (F : Fun K "check_two" "check_two" s_check_two f fd) (M : Mf mg) (c_letters_of : CalleeG P w K mg base "letters_of" 1 1 g_letters_of) (c_check_images : CalleeG P w K mg base "check_images" 3 1 g_check_images)  : FnG P w K mg base 4 f fd ["images"] (spD K mg 1 g_check_two) :=
  fng_body F sc_check_two fun X W h1 h2 h3 h4 h5 h6 h7 h8 C hr => by subst h1 h2 h3 h4 h5; exact body_check_two h6 h7 h8 M ⟨c_letters_of.ex⟩ ⟨c_check_images.ex⟩  C (cu_of hr) hr
/-! is_overlap_paper -/
abbrev s_is_overlap_paper : Stmt := topS 32
abbrev N_is_overlap_paper : List Str := ["images", "value", "part"]
theorem sc_is_overlap_paper : FnScope N_is_overlap_paper ["images", "value"] (defScope s_is_overlap_paper) := ⟨rfl, rfl, rfl, by decide +kernel, rfl, by decide +kernel, by decide +kernel⟩
def b_is_overlap_paper : DL.Env → Out Fl := fSeq (dExpr (fCall 1 g_check_two (fCons (fVar 0) (fNil)))) (fSeq (dIf (tOr' (tNot' (fTru (fIsi "tuple" (fVar 1)))) (tOr' (fBool (fBin opNe (fCB opLen (fCons (fVar 1) (fNil))) (fC (.int 2)))) (tOr' (tNot' (fTru (fCB opAll (fCons (fLc (dIt (fVar 1)) (gN 2) (fYes) (fCall 1 g_is_count (fCons (fVar 2) (fNil))) [2]) (fNil))))) (fBool (fBin opLt (fIx (fVar 1) (fC (.int 1))) (fC (.int 1))))))) (fSeq (fRet (fC (.bool false))) (fNx)) (fNx)) (fSeq (fRet (fCall 3 g_is_overlap_at (fCons (fCall 2 g_image_of (fCons (fVar 0) (fCons (fC (.str "abbabaab")) (fNil)))) (fCons (fIx (fVar 1) (fC (.int 0))) (fCons (fIx (fVar 1) (fC (.int 1))) (fNil)))))) (fNx)))
def g_is_overlap_paper : FD := fnBody 3 b_is_overlap_paper
theorem body_is_overlap_paper {X : Cx} {W : WX} (hN : X.N = N_is_overlap_paper) (hS : X.env.scope = defScope s_is_overlap_paper) (hF : X.fn = fun _ => true) (M : Mf X.mg) (c_is_overlap_at : Callee X "is_overlap_at" 1 3 g_is_overlap_at) (c_image_of : Callee X "image_of" 1 2 g_image_of) (c_is_count : Callee X "is_count" 2 1 g_is_count) (c_check_two : Callee X "check_two" 4 1 g_check_two)  (C : DC X W) (hu : Cu X) (hr : Room 4 X.A) : DSs X W (defBody s_is_overlap_paper) b_is_overlap_paper := by
  obtain ⟨t_TEST, v_TEST⟩ := M.v_TEST
  obtain ⟨prog, w, K, mg, base, A, N, s0, H0, env, outer, stack, ex, fn, calm, pn, xe⟩ := X
  obtain ⟨scope, locals, globals, cells, qual, func, code, frame, builtins⟩ := env
  cases (show N = N_is_overlap_paper from hN)
  cases (show scope = defScope s_is_overlap_paper from hS)
  cases (show fn = fun _ => true from hF)
  exact ds_cons (ds_expr (de_call C ⟨c_check_two.ex⟩ (hr.mono (by decide)) rfl (des_cons (de_var (i := 0) rfl (.inl rfl)) (des_nil)))) (ds_cons (ds_if (DW.pt (dw_or (dt_not (dt_truth (de_isi (T := "tuple") (by decide) (de_var (i := 1) rfl (.inl rfl)) rfl M.z_isinstance rfl M.z_tuple (by first | exact PyProof.Rows.boot_tuple | exact PySem.boot_tuple)))) (dw_or (dt_cmp (do_ne hu) (de_cb df_len (des_cons (de_var (i := 1) rfl (.inl rfl)) (des_nil)) rfl M.z_len (by first | exact PyProof.Rows.boot_len | exact PySem.boot_len)) (de_int)) (dw_or (dt_not (dt_truth (de_cb (df_all C.calm) (des_cons (de_lc (own := [("part", 2)]) C (by first | (change blkC N_is_overlap_paper (defScope s_is_overlap_paper) _ _ = true; decide +kernel) | rfl) (di_data (de_var (i := 1) rfl (.inl rfl))) (fun st0 H0 a0 cl0 fp0 => dg_name (i := 2) (dc_blk C _ st0 H0 a0 cl0 fp0).nd rfl (.inl rfl) (.inr rfl)) (fun st0 H0 a0 cl0 fp0 => dts_nil) (fun st0 H0 a0 cl0 fp0 => de_call (dc_blk C _ st0 H0 a0 cl0 fp0) ⟨c_is_count.ex⟩ (hr.mono (by decide)) rfl (des_cons (de_var (i := 2) rfl (.inl rfl)) (des_nil)))) (des_nil)) rfl M.z_all (by first | exact PyProof.Rows.boot_all | exact PySem.boot_all)))) (dw_or1 (dt_cmp (do_lt hu) (de_ix (de_var (i := 1) rfl (.inl rfl)) (de_int)) (de_int))))))) (ds_cons (ds_ret (de_bool)) (ds_nil)) (ds_nil)) (ds_cons (ds_ret (de_call C ⟨c_is_overlap_at.ex⟩ (hr.mono (by decide)) rfl (des_cons (de_call C ⟨c_image_of.ex⟩ (hr.mono (by decide)) rfl (des_cons (de_var (i := 0) rfl (.inl rfl)) (des_cons (de_globS rfl v_TEST) (des_nil)))) (des_cons (de_ix (de_var (i := 1) rfl (.inl rfl)) (de_int)) (des_cons (de_ix (de_var (i := 1) rfl (.inl rfl)) (de_int)) (des_nil)))))) (ds_nil)))
theorem ok_is_overlap_paper {P : Program} {w : World} {K : PySem.W.Frag} {mg : Str → Option Value} {base : Heap} {f : Addr} {fd : FuncData} (F : Fun K "is_overlap_paper" "is_overlap_paper" s_is_overlap_paper f fd) (M : Mf mg) (c_is_overlap_at : CalleeG P w K mg base "is_overlap_at" 1 3 g_is_overlap_at) (c_image_of : CalleeG P w K mg base "image_of" 1 2 g_image_of) (c_is_count : CalleeG P w K mg base "is_count" 2 1 g_is_count) (c_check_two : CalleeG P w K mg base "check_two" 4 1 g_check_two)  : FnG P w K mg base 5 f fd ["images", "value"] (spD K mg 2 g_is_overlap_paper) :=
  fng_body F sc_is_overlap_paper fun X W h1 h2 h3 h4 h5 h6 h7 h8 C hr => by subst h1 h2 h3 h4 h5; exact body_is_overlap_paper h6 h7 h8 M ⟨c_is_overlap_at.ex⟩ ⟨c_image_of.ex⟩ ⟨c_is_count.ex⟩ ⟨c_check_two.ex⟩  C (cu_of hr) hr
/-! _law_says -/
abbrev s__law_says : Stmt := topS 46
abbrev N__law_says : List Str := ["text", "value", "at", "p"]
theorem sc__law_says : FnScope N__law_says ["text", "value"] (defScope s__law_says) := ⟨rfl, rfl, rfl, by decide +kernel, rfl, by decide +kernel, by decide +kernel⟩
def b__law_says : DL.Env → Out Fl := fSeq (dIf (tOr' (tNot' (fTru (fIsi "tuple" (fVar 1)))) (tOr' (fBool (fBin opNe (fCB opLen (fCons (fVar 1) (fNil))) (fC (.int 2)))) (fTru (fIsi "bool" (fIx (fVar 1) (fC (.int 0))))))) (fSeq (fRet (fC (.bool false))) (fNx)) (fNx)) (fSeq (dAsg (gT 2 (gCons (gN 2) (gCons (gN 3) (gNil)))) (fVar 1)) (fSeq (fRet (vAnd (fBin opGt (fVar 3) (fC (.int 0))) (vAnd (fBin opLt (fBin opAdd (fVar 2) (fBin opMul (fC (.int 2)) (fVar 3))) (fCB opLen (fCons (fVar 0) (fNil)))) (fBin opEq (fSl (fVar 0) (fPart (fVar 2)) (fPart (fBin opAdd (fBin opAdd (fVar 2) (fVar 3)) (fC (.int 1))))) (fSl (fVar 0) (fPart (fBin opAdd (fVar 2) (fVar 3))) (fPart (fBin opAdd (fBin opAdd (fVar 2) (fBin opMul (fC (.int 2)) (fVar 3))) (fC (.int 1))))))))) (fNx)))
def g__law_says : FD := fnBody 4 b__law_says
theorem body__law_says {X : Cx} {W : WX} (hN : X.N = N__law_says) (hS : X.env.scope = defScope s__law_says) (hF : X.fn = fun _ => true) (M : Mf X.mg)   (C : DC X W) (hu : Cu X) (hr : Room 0 X.A) : DSs X W (defBody s__law_says) b__law_says := by
  obtain ⟨prog, w, K, mg, base, A, N, s0, H0, env, outer, stack, ex, fn, calm, pn, xe⟩ := X
  obtain ⟨scope, locals, globals, cells, qual, func, code, frame, builtins⟩ := env
  cases (show N = N__law_says from hN)
  cases (show scope = defScope s__law_says from hS)
  cases (show fn = fun _ => true from hF)
  exact ds_cons (ds_if (DW.pt (dw_or (dt_not (dt_truth (de_isi (T := "tuple") (by decide) (de_var (i := 1) rfl (.inl rfl)) rfl M.z_isinstance rfl M.z_tuple (by first | exact PyProof.Rows.boot_tuple | exact PySem.boot_tuple)))) (dw_or (dt_cmp (do_ne hu) (de_cb df_len (des_cons (de_var (i := 1) rfl (.inl rfl)) (des_nil)) rfl M.z_len (by first | exact PyProof.Rows.boot_len | exact PySem.boot_len)) (de_int)) (dw_or1 (dt_truth (de_isi (T := "bool") (by decide) (de_ix (de_var (i := 1) rfl (.inl rfl)) (de_int)) rfl M.z_isinstance rfl M.z_bool (by first | exact PyProof.Rows.boot_bool | exact PySem.boot_bool))))))) (ds_cons (ds_ret (de_bool)) (ds_nil)) (ds_nil)) (ds_cons (ds_asg (de_var (i := 1) rfl (.inl rfl)) (dg_tup C.calm (dgs_cons (dg_name (i := 2) C.nd rfl (.inl rfl) (.inl rfl)) (dgs_cons (dg_name (i := 3) C.nd rfl (.inl rfl) (.inl rfl)) (dgs_nil))))) (ds_cons (ds_ret (de_and (de_cmp (do_gt hu) (de_var (i := 3) rfl (.inl rfl)) (de_int)) (de_and (de_cmp (do_lt hu) (de_bin do_add (de_var (i := 2) rfl (.inl rfl)) (de_bin do_mul (de_int) (de_var (i := 3) rfl (.inl rfl)))) (de_cb df_len (des_cons (de_var (i := 0) rfl (.inl rfl)) (des_nil)) rfl M.z_len (by first | exact PyProof.Rows.boot_len | exact PySem.boot_len))) (de_one (de_cmp (do_eq hu) (de_sl (de_var (i := 0) rfl (.inl rfl)) (dp_some (de_var (i := 2) rfl (.inl rfl))) (dp_some (de_bin do_add (de_bin do_add (de_var (i := 2) rfl (.inl rfl)) (de_var (i := 3) rfl (.inl rfl))) (de_int)))) (de_sl (de_var (i := 0) rfl (.inl rfl)) (dp_some (de_bin do_add (de_var (i := 2) rfl (.inl rfl)) (de_var (i := 3) rfl (.inl rfl)))) (dp_some (de_bin do_add (de_bin do_add (de_var (i := 2) rfl (.inl rfl)) (de_bin do_mul (de_int) (de_var (i := 3) rfl (.inl rfl)))) (de_int))))))))) (ds_nil)))
theorem ok__law_says {P : Program} {w : World} {K : PySem.W.Frag} {mg : Str → Option Value} {base : Heap} {f : Addr} {fd : FuncData} (F : Fun K "_law_says" "_law_says" s__law_says f fd) (M : Mf mg)   : FnG P w K mg base 1 f fd ["text", "value"] (spD K mg 2 g__law_says) :=
  fng_body F sc__law_says fun X W h1 h2 h3 h4 h5 h6 h7 h8 C hr => by subst h1 h2 h3 h4 h5; exact body__law_says h6 h7 h8 M   C (cu_of hr) hr
/-! _law_draw -/
abbrev s__law_draw : Stmt := topS 35
abbrev N__law_draw : List Str := ["pot", "many", "digit"]
theorem sc__law_draw : FnScope N__law_draw ["pot", "many"] (defScope s__law_draw) := ⟨rfl, rfl, rfl, by decide +kernel, rfl, by decide +kernel, by decide +kernel⟩
def b__law_draw : DL.Env → Out Fl := fSeq (dIf (fBool (fBin opGt (fIx (fVar 0) (fC (.int 0))) (fC (.int 0)))) (fSeq (dAsg (gT 2 (gCons (gSubL 0 0) (gCons (gN 2) (gNil)))) (fCB opDivmod (fCons (fIx (fVar 0) (fC (.int 0))) (fCons (fVar 1) (fNil))))) (fSeq (fRet (fVar 2)) (fNx))) (fNx)) (fSeq (dSub 0 (fC (.int 1)) (fBin opMod (fCB opInt (fCons (fBin opAdd (fBin opMul (fIx (fVar 0) (fC (.int 1))) (fC (.int 40692))) (fC (.int 4909))) (fNil))) (fC (.int 2147483587)))) (fSeq (fRet (fBin opMod (fCB opInt (fCons (fBin opFdiv (fBin opMod (fCB opInt (fCons (fBin opMul (fIx (fVar 0) (fC (.int 1))) (fIx (fVar 0) (fC (.int 1)))) (fNil))) (fC (.int 2147483563))) (fC (.int 19))) (fNil))) (fVar 1))) (fNx)))
def g__law_draw : FD := fnBody 3 b__law_draw
theorem body__law_draw {X : Cx} {W : WX} (hN : X.N = N__law_draw) (hS : X.env.scope = defScope s__law_draw) (hF : X.fn = fun _ => true) (M : Mf X.mg)   (C : DC X W) (hu : Cu X) (hr : Room 0 X.A) : DSs X W (defBody s__law_draw) b__law_draw := by
  obtain ⟨prog, w, K, mg, base, A, N, s0, H0, env, outer, stack, ex, fn, calm, pn, xe⟩ := X
  obtain ⟨scope, locals, globals, cells, qual, func, code, frame, builtins⟩ := env
  cases (show N = N__law_draw from hN)
  cases (show scope = defScope s__law_draw from hS)
  cases (show fn = fun _ => true from hF)
  exact ds_cons (ds_if (dt_cmp (do_gt hu) (de_ix (de_var (i := 0) rfl (.inl rfl)) (de_int)) (de_int)) (ds_cons (ds_asg (de_cb df_divmod (des_cons (de_ix (de_var (i := 0) rfl (.inl rfl)) (de_int)) (des_cons (de_var (i := 1) rfl (.inl rfl)) (des_nil))) rfl M.z_divmod (by first | exact PyProof.Rows.boot_divmod | exact PySem.boot_divmod)) (dg_tup C.calm (dgs_cons (dg_subL (i := 0) rfl (.inl rfl)) (dgs_cons (dg_name (i := 2) C.nd rfl (.inl rfl) (.inl rfl)) (dgs_nil))))) (ds_cons (ds_ret (de_var (i := 2) rfl (.inl rfl))) (ds_nil))) (ds_nil)) (ds_cons (ds_subL (i := 0) (de_bin do_mod (de_cty df_int (des_cons (de_bin do_add (de_bin do_mul (de_ix (de_var (i := 0) rfl (.inl rfl)) (de_int)) (de_int)) (de_int)) (des_nil)) rfl M.z_int (by first | exact PyProof.Rows.boot_int | exact PySem.boot_int)) (de_int)) (de_int) rfl (.inl rfl)) (ds_cons (ds_ret (de_bin do_mod (de_cty df_int (des_cons (de_bin do_fdiv (de_bin do_mod (de_cty df_int (des_cons (de_bin do_mul (de_ix (de_var (i := 0) rfl (.inl rfl)) (de_int)) (de_ix (de_var (i := 0) rfl (.inl rfl)) (de_int))) (des_nil)) rfl M.z_int (by first | exact PyProof.Rows.boot_int | exact PySem.boot_int)) (de_int)) (de_int)) (des_nil)) rfl M.z_int (by first | exact PyProof.Rows.boot_int | exact PySem.boot_int)) (de_var (i := 1) rfl (.inl rfl)))) (ds_nil)))
theorem ok__law_draw {P : Program} {w : World} {K : PySem.W.Frag} {mg : Str → Option Value} {base : Heap} {f : Addr} {fd : FuncData} (F : Fun K "_law_draw" "_law_draw" s__law_draw f fd) (M : Mf mg)   : FnG P w K mg base 1 f fd ["pot", "many"] (spD K mg 2 g__law_draw) :=
  fng_body F sc__law_draw fun X W h1 h2 h3 h4 h5 h6 h7 h8 C hr => by subst h1 h2 h3 h4 h5; exact body__law_draw h6 h7 h8 M   C (cu_of hr) hr
/-! _law_overlap -/
abbrev s__law_overlap : Stmt := topS 42
abbrev N__law_overlap : List Str := ["word", "at", "p"]
theorem sc__law_overlap : FnScope N__law_overlap ["word"] (defScope s__law_overlap) := ⟨rfl, rfl, rfl, by decide +kernel, rfl, by decide +kernel, by decide +kernel⟩
def b__law_overlap : DL.Env → Out Fl := fSeq (dFor (fIr fRng1 (fCons (fCB opLen (fCons (fVar 0) (fNil))) (fNil))) (gN 1) (fSeq (dFor (fIr fRng2 (fCons (fC (.int 1)) (fCons (fBin opAdd (fBin opFdiv (fBin opSub (fBin opSub (fCB opLen (fCons (fVar 0) (fNil))) (fVar 1)) (fC (.int 1))) (fC (.int 2))) (fC (.int 1))) (fNil)))) (gN 2) (fSeq (dIf (fBool (fBin opEq (fSl (fVar 0) (fPart (fVar 1)) (fPart (fBin opAdd (fBin opAdd (fVar 1) (fVar 2)) (fC (.int 1))))) (fSl (fVar 0) (fPart (fBin opAdd (fVar 1) (fVar 2))) (fPart (fBin opAdd (fBin opAdd (fVar 1) (fBin opMul (fC (.int 2)) (fVar 2))) (fC (.int 1))))))) (fSeq (fRet (fTup (fConsD (fVar 1) (fConsD (fVar 2) (fNilD))))) (fNx)) (fNx)) (fNx))) (fNx))) (fSeq (fRet (fC .none)) (fNx))
def g__law_overlap : FD := fnBody 3 b__law_overlap
theorem body__law_overlap {X : Cx} {W : WX} (hN : X.N = N__law_overlap) (hS : X.env.scope = defScope s__law_overlap) (hF : X.fn = fun _ => true) (M : Mf X.mg)   (C : DC X W) (hu : Cu X) (hr : Room 0 X.A) : DSs X W (defBody s__law_overlap) b__law_overlap := by
  obtain ⟨prog, w, K, mg, base, A, N, s0, H0, env, outer, stack, ex, fn, calm, pn, xe⟩ := X
  obtain ⟨scope, locals, globals, cells, qual, func, code, frame, builtins⟩ := env
  cases (show N = N__law_overlap from hN)
  cases (show scope = defScope s__law_overlap from hS)
  cases (show fn = fun _ => true from hF)
  exact ds_cons (ds_for C (di_range1 rfl M.z_range (des_cons (de_cb df_len (des_cons (de_var (i := 0) rfl (.inl rfl)) (des_nil)) rfl M.z_len (by first | exact PyProof.Rows.boot_len | exact PySem.boot_len)) (des_nil))) (dg_name (i := 1) C.nd rfl (.inl rfl) (.inl rfl)) (ds_cons (ds_for C (di_range2 rfl M.z_range (des_cons (de_int) (des_cons (de_bin do_add (de_bin do_fdiv (de_bin do_sub (de_bin do_sub (de_cb df_len (des_cons (de_var (i := 0) rfl (.inl rfl)) (des_nil)) rfl M.z_len (by first | exact PyProof.Rows.boot_len | exact PySem.boot_len)) (de_var (i := 1) rfl (.inl rfl))) (de_int)) (de_int)) (de_int)) (des_nil)))) (dg_name (i := 2) C.nd rfl (.inl rfl) (.inl rfl)) (ds_cons (ds_if (dt_cmp (do_eq hu) (de_sl (de_var (i := 0) rfl (.inl rfl)) (dp_some (de_var (i := 1) rfl (.inl rfl))) (dp_some (de_bin do_add (de_bin do_add (de_var (i := 1) rfl (.inl rfl)) (de_var (i := 2) rfl (.inl rfl))) (de_int)))) (de_sl (de_var (i := 0) rfl (.inl rfl)) (dp_some (de_bin do_add (de_var (i := 1) rfl (.inl rfl)) (de_var (i := 2) rfl (.inl rfl)))) (dp_some (de_bin do_add (de_bin do_add (de_var (i := 1) rfl (.inl rfl)) (de_bin do_mul (de_int) (de_var (i := 2) rfl (.inl rfl)))) (de_int))))) (ds_cons (ds_ret (de_tup (dds_cons (de_var (i := 1) rfl (.inl rfl)) (dds_cons (de_var (i := 2) rfl (.inl rfl)) (dds_nil))))) (ds_nil)) (ds_nil)) (ds_nil))) (ds_nil))) (ds_cons (ds_ret (de_none)) (ds_nil))
theorem ok__law_overlap {P : Program} {w : World} {K : PySem.W.Frag} {mg : Str → Option Value} {base : Heap} {f : Addr} {fd : FuncData} (F : Fun K "_law_overlap" "_law_overlap" s__law_overlap f fd) (M : Mf mg)   : FnG P w K mg base 1 f fd ["word"] (spD K mg 1 g__law_overlap) :=
  fng_body F sc__law_overlap fun X W h1 h2 h3 h4 h5 h6 h7 h8 C hr => by subst h1 h2 h3 h4 h5; exact body__law_overlap h6 h7 h8 M   C (cu_of hr) hr
/-! _law_free -/
abbrev s__law_free : Stmt := topS 44
abbrev N__law_free : List Str := ["most", "found", "last", "turn", "later", "word", "sign"]
theorem sc__law_free : FnScope N__law_free ["most"] (defScope s__law_free) := ⟨rfl, rfl, rfl, by decide +kernel, rfl, by decide +kernel, by decide +kernel⟩
def b__law_free : DL.Env → Out Fl := fSeq (dPar [1, 2] (fConsP (fLst (fConsD (fC (.str "")) (fNilD))) (fConsP (fLst (fConsD (fC (.str "")) (fNilD))) (fNil)))) (fSeq (dFor (fIr fRng1 (fCons (fVar 0) (fNil))) (gN 3) (fSeq (dSet 4 (fLst (fNilD))) (fSeq (dFor (dIt (fVar 2)) (gN 5) (fSeq (dExpr (fExt 4 (fLc (dIt (fC (.str "ab"))) (gN 6) (fBool (fIsN false (fCall 1 g__law_overlap (fCons (fBin opAdd (fVar 5) (fVar 6)) (fNil))))) (fBin opAdd (fVar 5) (fVar 6)) [6]))) (fNx))) (fSeq (dSetM 2 (fVar 4)) (fSeq (dSet 1 (fBin opAdd (fVar 1) (fVar 2))) (fNx)))))) (fSeq (fRet (fVar 1)) (fNx)))
def g__law_free : FD := fnBody 7 b__law_free
theorem body__law_free {X : Cx} {W : WX} (hN : X.N = N__law_free) (hS : X.env.scope = defScope s__law_free) (hF : X.fn = fun _ => true) (M : Mf X.mg) (c__law_overlap : Callee X "_law_overlap" 1 1 g__law_overlap)  (C : DC X W) (hu : Cu X) (hr : Room 1 X.A) : DSs X W (defBody s__law_free) b__law_free := by
  obtain ⟨prog, w, K, mg, base, A, N, s0, H0, env, outer, stack, ex, fn, calm, pn, xe⟩ := X
  obtain ⟨scope, locals, globals, cells, qual, func, code, frame, builtins⟩ := env
  cases (show N = N__law_free from hN)
  cases (show scope = defScope s__law_free from hS)
  cases (show fn = fun _ => true from hF)
  exact ds_cons (ds_par2 (i := 1) (j := 2) C (dep_cons (de_lst (dds_cons (de_str) (dds_nil))) (dep_cons (de_lst (dds_cons (de_str) (dds_nil))) (dep_nil))) rfl rfl (by decide) rfl rfl rfl) (ds_cons (ds_for C (di_range1 rfl M.z_range (des_cons (de_var (i := 0) rfl (.inl rfl)) (des_nil))) (dg_name (i := 3) C.nd rfl (.inl rfl) (.inl rfl)) (ds_cons (ds_set (i := 4) (de_lst (dds_nil)) C.nd rfl (.inl rfl) rfl (.inl rfl)) (ds_cons (ds_for C (di_data (de_var (i := 2) rfl (.inl rfl))) (dg_name (i := 5) C.nd rfl (.inr rfl) (.inl rfl)) (ds_cons (ds_expr (de_ext (i := 4) (de_lc (own := [("sign", 6)]) C (by first | (change blkC N__law_free (defScope s__law_free) _ _ = true; decide +kernel) | rfl) (di_data (de_str)) (fun st0 H0 a0 cl0 fp0 => dg_name (i := 6) (dc_blk C _ st0 H0 a0 cl0 fp0).nd rfl (.inl rfl) (.inr rfl)) (fun st0 H0 a0 cl0 fp0 => dts_one (dt_isN (de_call (dc_blk C _ st0 H0 a0 cl0 fp0) ⟨c__law_overlap.ex⟩ (hr.mono (by decide)) rfl (des_cons (de_bin do_add (de_var (i := 5) rfl (.inr (.inl rfl))) (de_var (i := 6) rfl (.inl rfl))) (des_nil))))) (fun st0 H0 a0 cl0 fp0 => de_bin do_add (de_var (i := 5) rfl (.inr (.inl rfl))) (de_var (i := 6) rfl (.inl rfl)))) rfl (.inl rfl))) (ds_nil))) (ds_cons (ds_setM (i := 2) (de_var (i := 4) rfl (.inl rfl)) C.nd rfl (.inl rfl) rfl (.inl rfl)) (ds_cons (ds_set (i := 1) (de_bin do_add (de_var (i := 1) rfl (.inl rfl)) (de_var (i := 2) rfl (.inl rfl))) C.nd rfl (.inl rfl) rfl (.inl rfl)) (ds_nil)))))) (ds_cons (ds_ret (de_var (i := 1) rfl (.inl rfl))) (ds_nil)))
theorem ok__law_free {P : Program} {w : World} {K : PySem.W.Frag} {mg : Str → Option Value} {base : Heap} {f : Addr} {fd : FuncData} (F : Fun K "_law_free" "_law_free" s__law_free f fd) (M : Mf mg) (c__law_overlap : CalleeG P w K mg base "_law_overlap" 1 1 g__law_overlap)  : FnG P w K mg base 2 f fd ["most"] (spD K mg 1 g__law_free) :=
  fng_body F sc__law_free fun X W h1 h2 h3 h4 h5 h6 h7 h8 C hr => by subst h1 h2 h3 h4 h5; exact body__law_free h6 h7 h8 M ⟨c__law_overlap.ex⟩  C (cu_of hr) hr
/-! _law_image -/
abbrev s__law_image : Stmt := topS 39
abbrev N__law_image : List Str := ["images", "word", "sign"]
theorem sc__law_image : FnScope N__law_image ["images", "word"] (defScope s__law_image) := ⟨rfl, rfl, rfl, by decide +kernel, rfl, by decide +kernel, by decide +kernel⟩
def b__law_image : DL.Env → Out Fl := fSeq (fRet (fMt "str" opJoin (fC (.str "")) (fCons (fLc (dIt (fVar 1)) (gN 2) (fYes) (fIx (fIx (fVar 0) (fC (.int 1))) (fMt "str" opSIndex (fC (.str "abc")) (fCons (fVar 2) (fNil)))) [2]) (fNil)))) (fNx)
def g__law_image : FD := fnBody 3 b__law_image
theorem body__law_image {X : Cx} {W : WX} (hN : X.N = N__law_image) (hS : X.env.scope = defScope s__law_image) (hF : X.fn = fun _ => true) (M : Mf X.mg)   (C : DC X W) (hu : Cu X) (hr : Room 0 X.A) : DSs X W (defBody s__law_image) b__law_image := by
  obtain ⟨prog, w, K, mg, base, A, N, s0, H0, env, outer, stack, ex, fn, calm, pn, xe⟩ := X
  obtain ⟨scope, locals, globals, cells, qual, func, code, frame, builtins⟩ := env
  cases (show N = N__law_image from hN)
  cases (show scope = defScope s__law_image from hS)
  cases (show fn = fun _ => true from hF)
  exact ds_cons (ds_ret (de_mt (.inl rfl) PySem.F.plainAttrs_str PySem.F.slot_str_join PySem.F.type_str_join dm_join (de_str) (des_cons (de_lc (own := [("sign", 2)]) C (by first | (change blkC N__law_image (defScope s__law_image) _ _ = true; decide +kernel) | rfl) (di_data (de_var (i := 1) rfl (.inl rfl))) (fun st0 H0 a0 cl0 fp0 => dg_name (i := 2) (dc_blk C _ st0 H0 a0 cl0 fp0).nd rfl (.inl rfl) (.inr rfl)) (fun st0 H0 a0 cl0 fp0 => dts_nil) (fun st0 H0 a0 cl0 fp0 => de_ix (de_ix (de_var (i := 0) rfl (.inr (.inl rfl))) (de_int)) (de_mt (.inl rfl) PySem.F.plainAttrs_str PySem.F.slot_str_index PySem.F.type_str_index dm_sindex (de_str) (des_cons (de_var (i := 2) rfl (.inl rfl)) (des_nil))))) (des_nil)))) (ds_nil)
theorem ok__law_image {P : Program} {w : World} {K : PySem.W.Frag} {mg : Str → Option Value} {base : Heap} {f : Addr} {fd : FuncData} (F : Fun K "_law_image" "_law_image" s__law_image f fd) (M : Mf mg)   : FnG P w K mg base 1 f fd ["images", "word"] (spD K mg 2 g__law_image) :=
  fng_body F sc__law_image fun X W h1 h2 h3 h4 h5 h6 h7 h8 C hr => by subst h1 h2 h3 h4 h5; exact body__law_image h6 h7 h8 M   C (cu_of hr) hr
/-! _law_rows -/
abbrev s__law_rows : Stmt := topS 43
abbrev N__law_rows : List Str := ["found", "one", "other", "sign"]
theorem sc__law_rows : FnScope N__law_rows [] (defScope s__law_rows) := ⟨rfl, rfl, rfl, by decide +kernel, rfl, by decide +kernel, by decide +kernel⟩
def b__law_rows : DL.Env → Out Fl := fSeq (dSet 0 (fLst (fNilD))) (fSeq (dFor (dIt (fTup (fConsD (fC (.str "a")) (fConsD (fC (.str "ab")) (fConsD (fC (.str "abba")) (fConsD (fC (.str "abbabaab")) (fNilD))))))) (gN 1) (fSeq (dSet 2 (fMt "str" opJoin (fC (.str "")) (fCons (fLc (dIt (fVar 1)) (gN 3) (fYes) (vIf (fBool (fBin opEq (fVar 3) (fC (.str "a")))) (fC (.str "b")) (fC (.str "a"))) [3]) (fNil)))) (fSeq (dExpr (fExt 0 (fLst (fConsD (fTup (fConsD (fC (.str "images")) (fConsD (fTup (fConsD (fVar 1) (fConsD (fVar 2) (fNilD)))) (fNilD)))) (fConsD (fTup (fConsD (fC (.str "images")) (fConsD (fTup (fConsD (fVar 2) (fConsD (fVar 1) (fNilD)))) (fNilD)))) (fNilD)))))) (fNx)))) (fSeq (fRet (fVar 0)) (fNx)))
def g__law_rows : FD := fnBody 4 b__law_rows
theorem body__law_rows {X : Cx} {W : WX} (hN : X.N = N__law_rows) (hS : X.env.scope = defScope s__law_rows) (hF : X.fn = fun _ => true) (M : Mf X.mg)   (C : DC X W) (hu : Cu X) (hr : Room 0 X.A) : DSs X W (defBody s__law_rows) b__law_rows := by
  obtain ⟨prog, w, K, mg, base, A, N, s0, H0, env, outer, stack, ex, fn, calm, pn, xe⟩ := X
  obtain ⟨scope, locals, globals, cells, qual, func, code, frame, builtins⟩ := env
  cases (show N = N__law_rows from hN)
  cases (show scope = defScope s__law_rows from hS)
  cases (show fn = fun _ => true from hF)
  exact ds_cons (ds_set (i := 0) (de_lst (dds_nil)) C.nd rfl (.inl rfl) rfl (.inl rfl)) (ds_cons (ds_for C (di_data (de_tup (dds_cons (de_str) (dds_cons (de_str) (dds_cons (de_str) (dds_cons (de_str) (dds_nil))))))) (dg_name (i := 1) C.nd rfl (.inl rfl) (.inl rfl)) (ds_cons (ds_set (i := 2) (de_mt (.inl rfl) PySem.F.plainAttrs_str PySem.F.slot_str_join PySem.F.type_str_join dm_join (de_str) (des_cons (de_lc (own := [("sign", 3)]) C (by first | (change blkC N__law_rows (defScope s__law_rows) _ _ = true; decide +kernel) | rfl) (di_data (de_var (i := 1) rfl (.inl rfl))) (fun st0 H0 a0 cl0 fp0 => dg_name (i := 3) (dc_blk C _ st0 H0 a0 cl0 fp0).nd rfl (.inl rfl) (.inr rfl)) (fun st0 H0 a0 cl0 fp0 => dts_nil) (fun st0 H0 a0 cl0 fp0 => de_if (dt_cmp (do_eq hu) (de_var (i := 3) rfl (.inl rfl)) (de_str)) (de_str) (de_str))) (des_nil))) C.nd rfl (.inl rfl) rfl (.inl rfl)) (ds_cons (ds_expr (de_ext (i := 0) (de_lst (dds_cons (de_tup (dds_cons (de_str) (dds_cons (de_tup (dds_cons (de_var (i := 1) rfl (.inl rfl)) (dds_cons (de_var (i := 2) rfl (.inl rfl)) (dds_nil)))) (dds_nil)))) (dds_cons (de_tup (dds_cons (de_str) (dds_cons (de_tup (dds_cons (de_var (i := 2) rfl (.inl rfl)) (dds_cons (de_var (i := 1) rfl (.inl rfl)) (dds_nil)))) (dds_nil)))) (dds_nil)))) rfl (.inl rfl))) (ds_nil)))) (ds_cons (ds_ret (de_var (i := 0) rfl (.inl rfl))) (ds_nil)))
theorem ok__law_rows {P : Program} {w : World} {K : PySem.W.Frag} {mg : Str → Option Value} {base : Heap} {f : Addr} {fd : FuncData} (F : Fun K "_law_rows" "_law_rows" s__law_rows f fd) (M : Mf mg)   : FnG P w K mg base 1 f fd [] (spD K mg 0 g__law_rows) :=
  fng_body F sc__law_rows fun X W h1 h2 h3 h4 h5 h6 h7 h8 C hr => by subst h1 h2 h3 h4 h5; exact body__law_rows h6 h7 h8 M   C (cu_of hr) hr
/-! long_stretches -/
abbrev s_long_stretches : Stmt := topS 17
abbrev N_long_stretches : List Str := ["word", "period", "found", "begin", "at"]
theorem sc_long_stretches : FnScope N_long_stretches ["word", "period"] (defScope s_long_stretches) := ⟨rfl, rfl, rfl, by decide +kernel, rfl, by decide +kernel, by decide +kernel⟩
def b_long_stretches : DL.Env → Out Fl := fSeq (dPar [2, 3] (fConsP (fLst (fNilD)) (fConsP (fC (.int 0)) (fNil)))) (fSeq (dFor (fIr fRng1 (fCons (fBin opAdd (fBin opSub (fCB opLen (fCons (fVar 0) (fNil))) (fVar 1)) (fC (.int 1))) (fNil))) (gN 4) (fSeq (dIf (tOr' (fBool (fBin opEq (fBin opAdd (fVar 4) (fVar 1)) (fCB opLen (fCons (fVar 0) (fNil))))) (fBool (fBin opNe (fIx (fVar 0) (fVar 4)) (fIx (fVar 0) (fBin opAdd (fVar 4) (fVar 1)))))) (fSeq (dIf (fBool (fBin opGe (fBin opSub (fVar 4) (fVar 3)) (fVar 1))) (fSeq (dExpr (fApp 2 (fConsD (fTup (fConsD (fVar 3) (fConsD (fBin opAdd (fVar 4) (fVar 1)) (fNilD)))) (fNilD)))) (fNx)) (fNx)) (fSeq (dSet 3 (fBin opAdd (fVar 4) (fC (.int 1)))) (fNx))) (fNx)) (fNx))) (fSeq (fRet (fVar 2)) (fNx)))
def g_long_stretches : FD := fnBody 5 b_long_stretches
theorem body_long_stretches {X : Cx} {W : WX} (hN : X.N = N_long_stretches) (hS : X.env.scope = defScope s_long_stretches) (hF : X.fn = fun _ => true) (M : Mf X.mg)   (C : DC X W) (hu : Cu X) (hr : Room 0 X.A) : DSs X W (defBody s_long_stretches) b_long_stretches := by
  obtain ⟨prog, w, K, mg, base, A, N, s0, H0, env, outer, stack, ex, fn, calm, pn, xe⟩ := X
  obtain ⟨scope, locals, globals, cells, qual, func, code, frame, builtins⟩ := env
  cases (show N = N_long_stretches from hN)
  cases (show scope = defScope s_long_stretches from hS)
  cases (show fn = fun _ => true from hF)
  exact ds_cons (ds_par2 (i := 2) (j := 3) C (dep_cons (de_lst (dds_nil)) (dep_cons (de_int) (dep_nil))) rfl rfl (by decide) rfl rfl rfl) (ds_cons (ds_for C (di_range1 rfl M.z_range (des_cons (de_bin do_add (de_bin do_sub (de_cb df_len (des_cons (de_var (i := 0) rfl (.inl rfl)) (des_nil)) rfl M.z_len (by first | exact PyProof.Rows.boot_len | exact PySem.boot_len)) (de_var (i := 1) rfl (.inl rfl))) (de_int)) (des_nil))) (dg_name (i := 4) C.nd rfl (.inl rfl) (.inl rfl)) (ds_cons (ds_if (DW.pt (dw_or (dt_cmp (do_eq hu) (de_bin do_add (de_var (i := 4) rfl (.inl rfl)) (de_var (i := 1) rfl (.inl rfl))) (de_cb df_len (des_cons (de_var (i := 0) rfl (.inl rfl)) (des_nil)) rfl M.z_len (by first | exact PyProof.Rows.boot_len | exact PySem.boot_len))) (dw_or1 (dt_cmp (do_ne hu) (de_ix (de_var (i := 0) rfl (.inl rfl)) (de_var (i := 4) rfl (.inl rfl))) (de_ix (de_var (i := 0) rfl (.inl rfl)) (de_bin do_add (de_var (i := 4) rfl (.inl rfl)) (de_var (i := 1) rfl (.inl rfl)))))))) (ds_cons (ds_if (dt_cmp (do_ge hu) (de_bin do_sub (de_var (i := 4) rfl (.inl rfl)) (de_var (i := 3) rfl (.inl rfl))) (de_var (i := 1) rfl (.inl rfl))) (ds_cons (ds_expr (de_app (i := 2) (dds_cons (de_tup (dds_cons (de_var (i := 3) rfl (.inl rfl)) (dds_cons (de_bin do_add (de_var (i := 4) rfl (.inl rfl)) (de_var (i := 1) rfl (.inl rfl))) (dds_nil)))) (dds_nil)) rfl (.inl rfl))) (ds_nil)) (ds_nil)) (ds_cons (ds_set (i := 3) (de_bin do_add (de_var (i := 4) rfl (.inl rfl)) (de_int)) C.nd rfl (.inl rfl) rfl (.inl rfl)) (ds_nil))) (ds_nil)) (ds_nil))) (ds_cons (ds_ret (de_var (i := 2) rfl (.inl rfl))) (ds_nil)))
theorem ok_long_stretches {P : Program} {w : World} {K : PySem.W.Frag} {mg : Str → Option Value} {base : Heap} {f : Addr} {fd : FuncData} (F : Fun K "long_stretches" "long_stretches" s_long_stretches f fd) (M : Mf mg)   : FnG P w K mg base 1 f fd ["word", "period"] (spD K mg 2 g_long_stretches) :=
  fng_body F sc_long_stretches fun X W h1 h2 h3 h4 h5 h6 h7 h8 C hr => by subst h1 h2 h3 h4 h5; exact body_long_stretches h6 h7 h8 M   C (cu_of hr) hr
/-! root_round -/
abbrev s_root_round : Stmt := topS 12
abbrev N_root_round : List Str := ["word", "many"]
theorem sc_root_round : FnScope N_root_round ["word"] (defScope s_root_round) := ⟨rfl, rfl, rfl, by decide +kernel, rfl, by decide +kernel, by decide +kernel⟩
def b_root_round : DL.Env → Out Fl := fSeq (dFor (fIr fRng2 (fCons (fC (.int 1)) (fCons (fBin opAdd (fCB opLen (fCons (fVar 0) (fNil))) (fC (.int 1))) (fNil)))) (gN 1) (fSeq (dIf (tAnd' (fBool (fBin opEq (fBin opMod (fCB opLen (fCons (fVar 0) (fNil))) (fVar 1)) (fC (.int 0)))) (fBool (fBin opEq (fBin opMul (fSl (fVar 0) (fNo) (fPart (fVar 1))) (fBin opFdiv (fCB opLen (fCons (fVar 0) (fNil))) (fVar 1))) (fVar 0)))) (fSeq (fRet (fSl (fVar 0) (fNo) (fPart (fVar 1)))) (fNx)) (fNx)) (fNx))) (fSeq (fRet (fVar 0)) (fNx))
def g_root_round : FD := fnBody 2 b_root_round
theorem body_root_round {X : Cx} {W : WX} (hN : X.N = N_root_round) (hS : X.env.scope = defScope s_root_round) (hF : X.fn = fun _ => true) (M : Mf X.mg)   (C : DC X W) (hu : Cu X) (hr : Room 0 X.A) : DSs X W (defBody s_root_round) b_root_round := by
  obtain ⟨prog, w, K, mg, base, A, N, s0, H0, env, outer, stack, ex, fn, calm, pn, xe⟩ := X
  obtain ⟨scope, locals, globals, cells, qual, func, code, frame, builtins⟩ := env
  cases (show N = N_root_round from hN)
  cases (show scope = defScope s_root_round from hS)
  cases (show fn = fun _ => true from hF)
  exact ds_cons (ds_for C (di_range2 rfl M.z_range (des_cons (de_int) (des_cons (de_bin do_add (de_cb df_len (des_cons (de_var (i := 0) rfl (.inl rfl)) (des_nil)) rfl M.z_len (by first | exact PyProof.Rows.boot_len | exact PySem.boot_len)) (de_int)) (des_nil)))) (dg_name (i := 1) C.nd rfl (.inl rfl) (.inl rfl)) (ds_cons (ds_if (DW.pt (dw_and (dt_cmp (do_eq hu) (de_bin do_mod (de_cb df_len (des_cons (de_var (i := 0) rfl (.inl rfl)) (des_nil)) rfl M.z_len (by first | exact PyProof.Rows.boot_len | exact PySem.boot_len)) (de_var (i := 1) rfl (.inl rfl))) (de_int)) (dw_and1 (dt_cmp (do_eq hu) (de_bin do_mul (de_sl (de_var (i := 0) rfl (.inl rfl)) (dp_none) (dp_some (de_var (i := 1) rfl (.inl rfl)))) (de_bin do_fdiv (de_cb df_len (des_cons (de_var (i := 0) rfl (.inl rfl)) (des_nil)) rfl M.z_len (by first | exact PyProof.Rows.boot_len | exact PySem.boot_len)) (de_var (i := 1) rfl (.inl rfl)))) (de_var (i := 0) rfl (.inl rfl)))))) (ds_cons (ds_ret (de_sl (de_var (i := 0) rfl (.inl rfl)) (dp_none) (dp_some (de_var (i := 1) rfl (.inl rfl))))) (ds_nil)) (ds_nil)) (ds_nil))) (ds_cons (ds_ret (de_var (i := 0) rfl (.inl rfl))) (ds_nil))
theorem ok_root_round {P : Program} {w : World} {K : PySem.W.Frag} {mg : Str → Option Value} {base : Heap} {f : Addr} {fd : FuncData} (F : Fun K "root_round" "root_round" s_root_round f fd) (M : Mf mg)   : FnG P w K mg base 1 f fd ["word"] (spD K mg 1 g_root_round) :=
  fng_body F sc_root_round fun X W h1 h2 h3 h4 h5 h6 h7 h8 C hr => by subst h1 h2 h3 h4 h5; exact body_root_round h6 h7 h8 M   C (cu_of hr) hr
/-! runs_of -/
abbrev s_runs_of : Stmt := topS 18
abbrev N_runs_of : List Str := ["word", "found", "period", "begin", "end"]
theorem sc_runs_of : FnScope N_runs_of ["word"] (defScope s_runs_of) := ⟨rfl, rfl, rfl, by decide +kernel, rfl, by decide +kernel, by decide +kernel⟩
def b_runs_of : DL.Env → Out Fl := fSeq (dSet 1 (fLst (fNilD))) (fSeq (dFor (fIr fRng2 (fCons (fC (.int 1)) (fCons (fBin opAdd (fBin opFdiv (fCB opLen (fCons (fVar 0) (fNil))) (fC (.int 2))) (fC (.int 1))) (fNil)))) (gN 2) (fSeq (dFor (dIt (fCall 2 g_long_stretches (fCons (fVar 0) (fCons (fVar 2) (fNil))))) (gT 2 (gCons (gN 3) (gCons (gN 4) (gNil)))) (fSeq (dIf (fBool (fBin opEq (fCB opLen (fCons (fCall 1 g_root_round (fCons (fSl (fVar 0) (fPart (fVar 3)) (fPart (fBin opAdd (fVar 3) (fVar 2)))) (fNil))) (fNil))) (fVar 2))) (fSeq (dExpr (fApp 1 (fConsD (fTup (fConsD (fVar 3) (fConsD (fVar 4) (fConsD (fVar 2) (fNilD))))) (fNilD)))) (fNx)) (fNx)) (fNx))) (fNx))) (fSeq (fRet (fCB opSorted (fCons (fVar 1) (fNil)))) (fNx)))
def g_runs_of : FD := fnBody 5 b_runs_of
theorem body_runs_of {X : Cx} {W : WX} (hN : X.N = N_runs_of) (hS : X.env.scope = defScope s_runs_of) (hF : X.fn = fun _ => true) (M : Mf X.mg) (c_long_stretches : Callee X "long_stretches" 1 2 g_long_stretches) (c_root_round : Callee X "root_round" 1 1 g_root_round)  (C : DC X W) (hu : Cu X) (hr : Room 1 X.A) : DSs X W (defBody s_runs_of) b_runs_of := by
  obtain ⟨prog, w, K, mg, base, A, N, s0, H0, env, outer, stack, ex, fn, calm, pn, xe⟩ := X
  obtain ⟨scope, locals, globals, cells, qual, func, code, frame, builtins⟩ := env
  cases (show N = N_runs_of from hN)
  cases (show scope = defScope s_runs_of from hS)
  cases (show fn = fun _ => true from hF)
  exact ds_cons (ds_set (i := 1) (de_lst (dds_nil)) C.nd rfl (.inl rfl) rfl (.inl rfl)) (ds_cons (ds_for C (di_range2 rfl M.z_range (des_cons (de_int) (des_cons (de_bin do_add (de_bin do_fdiv (de_cb df_len (des_cons (de_var (i := 0) rfl (.inl rfl)) (des_nil)) rfl M.z_len (by first | exact PyProof.Rows.boot_len | exact PySem.boot_len)) (de_int)) (de_int)) (des_nil)))) (dg_name (i := 2) C.nd rfl (.inl rfl) (.inl rfl)) (ds_cons (ds_for C (di_data (de_call C ⟨c_long_stretches.ex⟩ (hr.mono (by decide)) rfl (des_cons (de_var (i := 0) rfl (.inl rfl)) (des_cons (de_var (i := 2) rfl (.inl rfl)) (des_nil))))) (dg_tup C.calm (dgs_cons (dg_name (i := 3) C.nd rfl (.inl rfl) (.inl rfl)) (dgs_cons (dg_name (i := 4) C.nd rfl (.inl rfl) (.inl rfl)) (dgs_nil)))) (ds_cons (ds_if (dt_cmp (do_eq hu) (de_cb df_len (des_cons (de_call C ⟨c_root_round.ex⟩ (hr.mono (by decide)) rfl (des_cons (de_sl (de_var (i := 0) rfl (.inl rfl)) (dp_some (de_var (i := 3) rfl (.inl rfl))) (dp_some (de_bin do_add (de_var (i := 3) rfl (.inl rfl)) (de_var (i := 2) rfl (.inl rfl))))) (des_nil))) (des_nil)) rfl M.z_len (by first | exact PyProof.Rows.boot_len | exact PySem.boot_len)) (de_var (i := 2) rfl (.inl rfl))) (ds_cons (ds_expr (de_app (i := 1) (dds_cons (de_tup (dds_cons (de_var (i := 3) rfl (.inl rfl)) (dds_cons (de_var (i := 4) rfl (.inl rfl)) (dds_cons (de_var (i := 2) rfl (.inl rfl)) (dds_nil))))) (dds_nil)) rfl (.inl rfl))) (ds_nil)) (ds_nil)) (ds_nil))) (ds_nil))) (ds_cons (ds_ret (de_cb (df_sorted hu) (des_cons (de_var (i := 1) rfl (.inl rfl)) (des_nil)) rfl M.z_sorted (by first | exact PyProof.Rows.boot_sorted | exact PySem.boot_sorted))) (ds_nil)))
theorem ok_runs_of {P : Program} {w : World} {K : PySem.W.Frag} {mg : Str → Option Value} {base : Heap} {f : Addr} {fd : FuncData} (F : Fun K "runs_of" "runs_of" s_runs_of f fd) (M : Mf mg) (c_long_stretches : CalleeG P w K mg base "long_stretches" 1 2 g_long_stretches) (c_root_round : CalleeG P w K mg base "root_round" 1 1 g_root_round)  : FnG P w K mg base 2 f fd ["word"] (spD K mg 1 g_runs_of) :=
  fng_body F sc_runs_of fun X W h1 h2 h3 h4 h5 h6 h7 h8 C hr => by subst h1 h2 h3 h4 h5; exact body_runs_of h6 h7 h8 M ⟨c_long_stretches.ex⟩ ⟨c_root_round.ex⟩  C (cu_of hr) hr
/-! letters_asked -/
abbrev s_letters_asked : Stmt := topS 23
abbrev N_letters_asked : List Str := ["kind", "period"]
theorem sc_letters_asked : FnScope N_letters_asked ["kind", "period"] (defScope s_letters_asked) := ⟨rfl, rfl, rfl, by decide +kernel, rfl, by decide +kernel, by decide +kernel⟩
def b_letters_asked : DL.Env → Out Fl := fSeq (fRet (fDsub (fPcons (fC (.str "squares")) (fBin opMul (fC (.int 2)) (fVar 1)) (fPcons (fC (.str "overlaps")) (fBin opAdd (fBin opMul (fC (.int 2)) (fVar 1)) (fC (.int 1))) (fPcons (fC (.str "cubes")) (fBin opMul (fC (.int 3)) (fVar 1)) (fPnil)))) (fVar 0))) (fNx)
def g_letters_asked : FD := fnBody 2 b_letters_asked
theorem body_letters_asked {X : Cx} {W : WX} (hN : X.N = N_letters_asked) (hS : X.env.scope = defScope s_letters_asked) (hF : X.fn = fun _ => true) (M : Mf X.mg)   (C : DC X W) (hu : Cu X) (hr : Room 0 X.A) : DSs X W (defBody s_letters_asked) b_letters_asked := by
  obtain ⟨t_CUBES, v_CUBES⟩ := M.v_CUBES
  obtain ⟨t_OVERLAPS, v_OVERLAPS⟩ := M.v_OVERLAPS
  obtain ⟨t_SQUARES, v_SQUARES⟩ := M.v_SQUARES
  obtain ⟨prog, w, K, mg, base, A, N, s0, H0, env, outer, stack, ex, fn, calm, pn, xe⟩ := X
  obtain ⟨scope, locals, globals, cells, qual, func, code, frame, builtins⟩ := env
  cases (show N = N_letters_asked from hN)
  cases (show scope = defScope s_letters_asked from hS)
  cases (show fn = fun _ => true from hF)
  exact ds_cons (ds_ret (de_dsub hu (dpp_cons (de_globS rfl v_SQUARES) (de_bin do_mul (de_int) (de_var (i := 1) rfl (.inl rfl))) (dpp_cons (de_globS rfl v_OVERLAPS) (de_bin do_add (de_bin do_mul (de_int) (de_var (i := 1) rfl (.inl rfl))) (de_int)) (dpp_cons (de_globS rfl v_CUBES) (de_bin do_mul (de_int) (de_var (i := 1) rfl (.inl rfl))) (dpp_nil)))) (de_var (i := 0) rfl (.inl rfl)))) (ds_nil)
theorem ok_letters_asked {P : Program} {w : World} {K : PySem.W.Frag} {mg : Str → Option Value} {base : Heap} {f : Addr} {fd : FuncData} (F : Fun K "letters_asked" "letters_asked" s_letters_asked f fd) (M : Mf mg)   : FnG P w K mg base 1 f fd ["kind", "period"] (spD K mg 2 g_letters_asked) :=
  fng_body F sc_letters_asked fun X W h1 h2 h3 h4 h5 h6 h7 h8 C hr => by subst h1 h2 h3 h4 h5; exact body_letters_asked h6 h7 h8 M   C (cu_of hr) hr
/-! first_of -/
abbrev s_first_of : Stmt := topS 24
abbrev N_first_of : List Str := ["word", "kind", "found", "begin", "end", "period", "many"]
theorem sc_first_of : FnScope N_first_of ["word", "kind"] (defScope s_first_of) := ⟨rfl, rfl, rfl, by decide +kernel, rfl, by decide +kernel, by decide +kernel⟩
def b_first_of : DL.Env → Out Fl := fSeq (dSet 2 (fLst (fNilD))) (fSeq (dFor (dIt (fCall 1 g_runs_of (fCons (fVar 0) (fNil)))) (gT 3 (gCons (gN 3) (gCons (gN 4) (gCons (gN 5) (gNil))))) (fSeq (dSet 6 (fCall 2 g_letters_asked (fCons (fVar 1) (fCons (fVar 5) (fNil))))) (fSeq (dIf (fBool (fBin opGe (fBin opSub (fVar 4) (fVar 3)) (fVar 6))) (fSeq (dExpr (fApp 2 (fConsD (fTup (fConsD (fBin opAdd (fVar 3) (fVar 6)) (fConsD (fVar 5) (fConsD (fVar 3) (fNilD))))) (fNilD)))) (fNx)) (fNx)) (fNx)))) (fSeq (fRet (vIf (fBool (fBin opNe (fVar 2) (fLst (fNilD)))) (fTup (fConsD (fIx (fCB opMin1 (fCons (fVar 2) (fNil))) (fC (.int 2))) (fConsD (fIx (fCB opMin1 (fCons (fVar 2) (fNil))) (fC (.int 1))) (fNilD)))) (fC .none))) (fNx)))
def g_first_of : FD := fnBody 7 b_first_of
theorem body_first_of {X : Cx} {W : WX} (hN : X.N = N_first_of) (hS : X.env.scope = defScope s_first_of) (hF : X.fn = fun _ => true) (M : Mf X.mg) (c_runs_of : Callee X "runs_of" 2 1 g_runs_of) (c_letters_asked : Callee X "letters_asked" 1 2 g_letters_asked)  (C : DC X W) (hu : Cu X) (hr : Room 2 X.A) : DSs X W (defBody s_first_of) b_first_of := by
  obtain ⟨prog, w, K, mg, base, A, N, s0, H0, env, outer, stack, ex, fn, calm, pn, xe⟩ := X
  obtain ⟨scope, locals, globals, cells, qual, func, code, frame, builtins⟩ := env
  cases (show N = N_first_of from hN)
  cases (show scope = defScope s_first_of from hS)
  cases (show fn = fun _ => true from hF)
  exact ds_cons (ds_set (i := 2) (de_lst (dds_nil)) C.nd rfl (.inl rfl) rfl (.inl rfl)) (ds_cons (ds_for C (di_data (de_call C ⟨c_runs_of.ex⟩ (hr.mono (by decide)) rfl (des_cons (de_var (i := 0) rfl (.inl rfl)) (des_nil)))) (dg_tup C.calm (dgs_cons (dg_name (i := 3) C.nd rfl (.inl rfl) (.inl rfl)) (dgs_cons (dg_name (i := 4) C.nd rfl (.inl rfl) (.inl rfl)) (dgs_cons (dg_name (i := 5) C.nd rfl (.inl rfl) (.inl rfl)) (dgs_nil))))) (ds_cons (ds_set (i := 6) (de_call C ⟨c_letters_asked.ex⟩ (hr.mono (by decide)) rfl (des_cons (de_var (i := 1) rfl (.inl rfl)) (des_cons (de_var (i := 5) rfl (.inl rfl)) (des_nil)))) C.nd rfl (.inl rfl) rfl (.inl rfl)) (ds_cons (ds_if (dt_cmp (do_ge hu) (de_bin do_sub (de_var (i := 4) rfl (.inl rfl)) (de_var (i := 3) rfl (.inl rfl))) (de_var (i := 6) rfl (.inl rfl))) (ds_cons (ds_expr (de_app (i := 2) (dds_cons (de_tup (dds_cons (de_bin do_add (de_var (i := 3) rfl (.inl rfl)) (de_var (i := 6) rfl (.inl rfl))) (dds_cons (de_var (i := 5) rfl (.inl rfl)) (dds_cons (de_var (i := 3) rfl (.inl rfl)) (dds_nil))))) (dds_nil)) rfl (.inl rfl))) (ds_nil)) (ds_nil)) (ds_nil)))) (ds_cons (ds_ret (de_if (dt_cmp (do_ne hu) (de_var (i := 2) rfl (.inl rfl)) (de_lst (dds_nil))) (de_tup (dds_cons (de_ix (de_cb (df_min1 C.calm hu) (des_cons (de_var (i := 2) rfl (.inl rfl)) (des_nil)) rfl M.z_min (by first | exact PyProof.Rows.boot_min | exact PySem.boot_min)) (de_int)) (dds_cons (de_ix (de_cb (df_min1 C.calm hu) (des_cons (de_var (i := 2) rfl (.inl rfl)) (des_nil)) rfl M.z_min (by first | exact PyProof.Rows.boot_min | exact PySem.boot_min)) (de_int)) (dds_nil)))) (de_none))) (ds_nil)))
theorem ok_first_of {P : Program} {w : World} {K : PySem.W.Frag} {mg : Str → Option Value} {base : Heap} {f : Addr} {fd : FuncData} (F : Fun K "first_of" "first_of" s_first_of f fd) (M : Mf mg) (c_runs_of : CalleeG P w K mg base "runs_of" 2 1 g_runs_of) (c_letters_asked : CalleeG P w K mg base "letters_asked" 1 2 g_letters_asked)  : FnG P w K mg base 3 f fd ["word", "kind"] (spD K mg 2 g_first_of) :=
  fng_body F sc_first_of fun X W h1 h2 h3 h4 h5 h6 h7 h8 C hr => by subst h1 h2 h3 h4 h5; exact body_first_of h6 h7 h8 M ⟨c_runs_of.ex⟩ ⟨c_letters_asked.ex⟩  C (cu_of hr) hr
/-! keeps_overlap_free -/
abbrev s_keeps_overlap_free : Stmt := topS 30
abbrev N_keeps_overlap_free : List Str := ["images"]
theorem sc_keeps_overlap_free : FnScope N_keeps_overlap_free ["images"] (defScope s_keeps_overlap_free) := ⟨rfl, rfl, rfl, by decide +kernel, rfl, by decide +kernel, by decide +kernel⟩
def b_keeps_overlap_free : DL.Env → Out Fl := fSeq (dExpr (fCall 1 g_check_two (fCons (fVar 0) (fNil)))) (fSeq (fRet (fIsN false (fCall 2 g_first_of (fCons (fCall 2 g_image_of (fCons (fVar 0) (fCons (fC (.str "abbabaab")) (fNil)))) (fCons (fC (.str "overlaps")) (fNil)))))) (fNx))
def g_keeps_overlap_free : FD := fnBody 1 b_keeps_overlap_free
theorem body_keeps_overlap_free {X : Cx} {W : WX} (hN : X.N = N_keeps_overlap_free) (hS : X.env.scope = defScope s_keeps_overlap_free) (hF : X.fn = fun _ => true) (M : Mf X.mg) (c_first_of : Callee X "first_of" 3 2 g_first_of) (c_image_of : Callee X "image_of" 1 2 g_image_of) (c_check_two : Callee X "check_two" 4 1 g_check_two)  (C : DC X W) (hu : Cu X) (hr : Room 4 X.A) : DSs X W (defBody s_keeps_overlap_free) b_keeps_overlap_free := by
  obtain ⟨t_OVERLAPS, v_OVERLAPS⟩ := M.v_OVERLAPS
  obtain ⟨t_TEST, v_TEST⟩ := M.v_TEST
  obtain ⟨prog, w, K, mg, base, A, N, s0, H0, env, outer, stack, ex, fn, calm, pn, xe⟩ := X
  obtain ⟨scope, locals, globals, cells, qual, func, code, frame, builtins⟩ := env
  cases (show N = N_keeps_overlap_free from hN)
  cases (show scope = defScope s_keeps_overlap_free from hS)
  cases (show fn = fun _ => true from hF)
  exact ds_cons (ds_expr (de_call C ⟨c_check_two.ex⟩ (hr.mono (by decide)) rfl (des_cons (de_var (i := 0) rfl (.inl rfl)) (des_nil)))) (ds_cons (ds_ret (de_isN (de_call C ⟨c_first_of.ex⟩ (hr.mono (by decide)) rfl (des_cons (de_call C ⟨c_image_of.ex⟩ (hr.mono (by decide)) rfl (des_cons (de_var (i := 0) rfl (.inl rfl)) (des_cons (de_globS rfl v_TEST) (des_nil)))) (des_cons (de_globS rfl v_OVERLAPS) (des_nil)))))) (ds_nil))
theorem ok_keeps_overlap_free {P : Program} {w : World} {K : PySem.W.Frag} {mg : Str → Option Value} {base : Heap} {f : Addr} {fd : FuncData} (F : Fun K "keeps_overlap_free" "keeps_overlap_free" s_keeps_overlap_free f fd) (M : Mf mg) (c_first_of : CalleeG P w K mg base "first_of" 3 2 g_first_of) (c_image_of : CalleeG P w K mg base "image_of" 1 2 g_image_of) (c_check_two : CalleeG P w K mg base "check_two" 4 1 g_check_two)  : FnG P w K mg base 5 f fd ["images"] (spD K mg 1 g_keeps_overlap_free) :=
  fng_body F sc_keeps_overlap_free fun X W h1 h2 h3 h4 h5 h6 h7 h8 C hr => by subst h1 h2 h3 h4 h5; exact body_keeps_overlap_free h6 h7 h8 M ⟨c_first_of.ex⟩ ⟨c_image_of.ex⟩ ⟨c_check_two.ex⟩  C (cu_of hr) hr
/-! first_at -/
abbrev s_first_at : Stmt := topS 28
abbrev N_first_at : List Str := ["word", "is_at", "at", "many"]
theorem sc_first_at : FnScope N_first_at ["word", "is_at"] (defScope s_first_at) := ⟨rfl, rfl, rfl, by decide +kernel, rfl, by decide +kernel, by decide +kernel⟩
def b_first_at : DL.Env → Out Fl := fSeq (dFor (fIr fRng1 (fCons (fCB opLen (fCons (fVar 0) (fNil))) (fNil))) (gN 2) (fSeq (dFor (fIr fRng2 (fCons (fC (.int 1)) (fCons (fBin opAdd (fBin opFdiv (fCB opLen (fCons (fVar 0) (fNil))) (fC (.int 2))) (fC (.int 1))) (fNil)))) (gN 3) (fSeq (dIf (fTru (fCallV 1 [(nm_is_overlap_at, 3, g_is_overlap_at)] (fCons (fVar 0) (fCons (fVar 2) (fCons (fVar 3) (fNil)))))) (fSeq (fRet (fTup (fConsD (fVar 2) (fConsD (fVar 3) (fNilD))))) (fNx)) (fNx)) (fNx))) (fNx))) (fSeq (fRet (fC .none)) (fNx))
def g_first_at : FD := fnBody 4 b_first_at
theorem body_first_at {X : Cx} {W : WX} (hN : X.N = N_first_at) (hS : X.env.scope = defScope s_first_at) (hF : X.fn = fun _ => true) (M : Mf X.mg) (c_is_overlap_at : Callee X "is_overlap_at" 1 3 g_is_overlap_at)  (C : DC X W) (hu : Cu X) (hr : Room 1 X.A) : DSs X W (defBody s_first_at) b_first_at := by
  obtain ⟨prog, w, K, mg, base, A, N, s0, H0, env, outer, stack, ex, fn, calm, pn, xe⟩ := X
  obtain ⟨scope, locals, globals, cells, qual, func, code, frame, builtins⟩ := env
  cases (show N = N_first_at from hN)
  cases (show scope = defScope s_first_at from hS)
  cases (show fn = fun _ => true from hF)
  exact ds_cons (ds_for C (di_range1 rfl M.z_range (des_cons (de_cb df_len (des_cons (de_var (i := 0) rfl (.inl rfl)) (des_nil)) rfl M.z_len (by first | exact PyProof.Rows.boot_len | exact PySem.boot_len)) (des_nil))) (dg_name (i := 2) C.nd rfl (.inl rfl) (.inl rfl)) (ds_cons (ds_for C (di_range2 rfl M.z_range (des_cons (de_int) (des_cons (de_bin do_add (de_bin do_fdiv (de_cb df_len (des_cons (de_var (i := 0) rfl (.inl rfl)) (des_nil)) rfl M.z_len (by first | exact PyProof.Rows.boot_len | exact PySem.boot_len)) (de_int)) (de_int)) (des_nil)))) (dg_name (i := 3) C.nd rfl (.inl rfl) (.inl rfl)) (ds_cons (ds_if (dt_truth (de_callV (k := 1) (i := 1) C (fun y n g h => by exact tab_cons (callee_mono ⟨c_is_overlap_at.ex⟩ (by decide)) (tab_nil) h) (hr.mono (by decide)) rfl (.inl rfl) (des_cons (de_var (i := 0) rfl (.inl rfl)) (des_cons (de_var (i := 2) rfl (.inl rfl)) (des_cons (de_var (i := 3) rfl (.inl rfl)) (des_nil)))))) (ds_cons (ds_ret (de_tup (dds_cons (de_var (i := 2) rfl (.inl rfl)) (dds_cons (de_var (i := 3) rfl (.inl rfl)) (dds_nil))))) (ds_nil)) (ds_nil)) (ds_nil))) (ds_nil))) (ds_cons (ds_ret (de_none)) (ds_nil))
theorem ok_first_at {P : Program} {w : World} {K : PySem.W.Frag} {mg : Str → Option Value} {base : Heap} {f : Addr} {fd : FuncData} (F : Fun K "first_at" "first_at" s_first_at f fd) (M : Mf mg) (c_is_overlap_at : CalleeG P w K mg base "is_overlap_at" 1 3 g_is_overlap_at)  : FnG P w K mg base 2 f fd ["word", "is_at"] (spD K mg 2 g_first_at) :=
  fng_body F sc_first_at fun X W h1 h2 h3 h4 h5 h6 h7 h8 C hr => by subst h1 h2 h3 h4 h5; exact body_first_at h6 h7 h8 M ⟨c_is_overlap_at.ex⟩  C (cu_of hr) hr
/-! overlap_paper -/
abbrev s_overlap_paper : Stmt := topS 31
abbrev N_overlap_paper : List Str := ["images"]
theorem sc_overlap_paper : FnScope N_overlap_paper ["images"] (defScope s_overlap_paper) := ⟨rfl, rfl, rfl, by decide +kernel, rfl, by decide +kernel, by decide +kernel⟩
def b_overlap_paper : DL.Env → Out Fl := fSeq (dExpr (fCall 1 g_check_two (fCons (fVar 0) (fNil)))) (fSeq (fRet (fCall 2 g_first_at (fCons (fCall 2 g_image_of (fCons (fVar 0) (fCons (fC (.str "abbabaab")) (fNil)))) (fCons (fFn nm_is_overlap_at) (fNil))))) (fNx))
def g_overlap_paper : FD := fnBody 1 b_overlap_paper
theorem body_overlap_paper {X : Cx} {W : WX} (hN : X.N = N_overlap_paper) (hS : X.env.scope = defScope s_overlap_paper) (hF : X.fn = fun _ => true) (M : Mf X.mg) (c_first_at : Callee X "first_at" 2 2 g_first_at) (c_is_overlap_at : Callee X "is_overlap_at" 1 3 g_is_overlap_at) (c_image_of : Callee X "image_of" 1 2 g_image_of) (c_check_two : Callee X "check_two" 4 1 g_check_two)  (C : DC X W) (hu : Cu X) (hr : Room 4 X.A) : DSs X W (defBody s_overlap_paper) b_overlap_paper := by
  obtain ⟨t_TEST, v_TEST⟩ := M.v_TEST
  obtain ⟨prog, w, K, mg, base, A, N, s0, H0, env, outer, stack, ex, fn, calm, pn, xe⟩ := X
  obtain ⟨scope, locals, globals, cells, qual, func, code, frame, builtins⟩ := env
  cases (show N = N_overlap_paper from hN)
  cases (show scope = defScope s_overlap_paper from hS)
  cases (show fn = fun _ => true from hF)
  exact ds_cons (ds_expr (de_call C ⟨c_check_two.ex⟩ (hr.mono (by decide)) rfl (des_cons (de_var (i := 0) rfl (.inl rfl)) (des_nil)))) (ds_cons (ds_ret (de_call C ⟨c_first_at.ex⟩ (hr.mono (by decide)) rfl (des_cons (de_call C ⟨c_image_of.ex⟩ (hr.mono (by decide)) rfl (des_cons (de_var (i := 0) rfl (.inl rfl)) (des_cons (de_globS rfl v_TEST) (des_nil)))) (des_cons (de_fnC ⟨c_is_overlap_at.ex⟩ rfl) (des_nil))))) (ds_nil))
theorem ok_overlap_paper {P : Program} {w : World} {K : PySem.W.Frag} {mg : Str → Option Value} {base : Heap} {f : Addr} {fd : FuncData} (F : Fun K "overlap_paper" "overlap_paper" s_overlap_paper f fd) (M : Mf mg) (c_first_at : CalleeG P w K mg base "first_at" 2 2 g_first_at) (c_is_overlap_at : CalleeG P w K mg base "is_overlap_at" 1 3 g_is_overlap_at) (c_image_of : CalleeG P w K mg base "image_of" 1 2 g_image_of) (c_check_two : CalleeG P w K mg base "check_two" 4 1 g_check_two)  : FnG P w K mg base 5 f fd ["images"] (spD K mg 1 g_overlap_paper) :=
  fng_body F sc_overlap_paper fun X W h1 h2 h3 h4 h5 h6 h7 h8 C hr => by subst h1 h2 h3 h4 h5; exact body_overlap_paper h6 h7 h8 M ⟨c_first_at.ex⟩ ⟨c_is_overlap_at.ex⟩ ⟨c_image_of.ex⟩ ⟨c_check_two.ex⟩  C (cu_of hr) hr
/-! _law_one_right -/
abbrev s__law_one_right : Stmt := topS 45
abbrev N__law_one_right : List Str := ["pot", "images", "shown", "text", "due", "told", "some", "value", "says", "word"]
theorem sc__law_one_right : FnScope N__law_one_right ["pot", "images"] (defScope s__law_one_right) := ⟨rfl, rfl, rfl, by decide +kernel, rfl, by decide +kernel, by decide +kernel⟩
def b__law_one_right : DL.Env → Out Fl := fSeq (dPar [2, 3] (fConsP (fCB opRepr (fCons (fVar 1) (fNil))) (fConsP (fCall 2 g__law_image (fCons (fVar 1) (fCons (fC (.str "abbabaab")) (fNil)))) (fNil)))) (fSeq (dSet 4 (fCall 1 g__law_overlap (fCons (fVar 3) (fNil)))) (fSeq (dSet 5 (fLst (fConsD (fCall 1 g_keeps_overlap_free (fCons (fVar 1) (fNil))) (fConsD (fCall 1 g_overlap_paper (fCons (fVar 1) (fNil))) (fConsD (fCallK 1 [0] g_keeps_overlap_free (fCons (fVar 1) (fNil))) (fNilD)))))) (fSeq (dIf (tOr' (fBool (fBin opNe (fCB opRepr (fCons (fVar 5) (fNil))) (fCB opRepr (fCons (fLst (fConsD (fIsN false (fVar 4)) (fConsD (fVar 4) (fConsD (fIsN false (fVar 4)) (fNilD))))) (fNil))))) (fBool (fBin opNe (fIsN false (fVar 4)) (fBin (opIn false) (fVar 1) (fCall 0 g__law_rows fNil))))) (fSeq (fRet (fC (.bool false))) (fNx)) (fNx)) (fSeq (dIf (tAnd' (fBool (fIsN false (fVar 4))) (fTru (fCB opAny (fCons (fLc (dIt (fCall 1 g__law_free (fCons (fC (.int 6)) (fNil)))) (gN 9) (fYes) (fIsN true (fCall 1 g__law_overlap (fCons (fCall 2 g__law_image (fCons (fVar 1) (fCons (fVar 9) (fNil)))) (fNil)))) [9]) (fNil))))) (fSeq (fRet (fC (.bool false))) (fNx)) (fNx)) (fSeq (dSet 6 (fLst (fConsD (fVar 4) (fConsD (fTup (fConsD (fCall 2 g__law_draw (fCons (fVar 0) (fCons (fCB opLen (fCons (fVar 3) (fNil))) (fNil)))) (fConsD (fBin opAdd (fC (.int 1)) (fCall 2 g__law_draw (fCons (fVar 0) (fCons (fC (.int 5)) (fNil))))) (fNilD)))) (fConsD (fTup (fConsD (fC (.int 0)) (fConsD (fC (.int 0)) (fNilD)))) (fConsD (fTup (fConsD (fC (.int 0)) (fConsD (fCB opLen (fCons (fVar 3) (fNil))) (fNilD)))) (fConsD (fLst (fConsD (fC (.int 0)) (fConsD (fC (.int 1)) (fNilD)))) (fConsD (fTup (fConsD (fC (.bool true)) (fConsD (fC (.int 1)) (fNilD)))) (fConsD (fTup (fConsD (fC (.int 0)) (fConsD (fC (.int 1)) (fConsD (fC (.int 1)) (fNilD))))) (fConsD (fC .none) (fNilD))))))))))) (fSeq (dFor (dIt (fVar 6)) (gN 7) (fSeq (dSet 8 (fCall 2 g__law_says (fCons (fVar 3) (fCons (fVar 7) (fNil))))) (fSeq (dIf (fBool (fBin opNe (fCB opRepr (fCons (fLst (fConsD (fCall 2 g_is_overlap_paper (fCons (fVar 1) (fCons (fVar 7) (fNil)))) (fConsD (fCallK 2 [1, 0] g_is_overlap_paper (fCons (fVar 7) (fCons (fVar 1) (fNil)))) (fNilD)))) (fNil))) (fCB opRepr (fCons (fLst (fConsD (fVar 8) (fConsD (fVar 8) (fNilD)))) (fNil))))) (fSeq (fRet (fC (.bool false))) (fNx)) (fNx)) (fNx)))) (fSeq (fRet (fBin opEq (fCB opRepr (fCons (fVar 1) (fNil))) (fVar 2))) (fNx))))))))
def g__law_one_right : FD := fnBody 10 b__law_one_right
theorem body__law_one_right {X : Cx} {W : WX} (hN : X.N = N__law_one_right) (hS : X.env.scope = defScope s__law_one_right) (hF : X.fn = fun _ => true) (M : Mf X.mg) (c_is_overlap_paper : Callee X "is_overlap_paper" 5 2 g_is_overlap_paper) (c__law_says : Callee X "_law_says" 1 2 g__law_says) (c__law_draw : Callee X "_law_draw" 1 2 g__law_draw) (c__law_free : Callee X "_law_free" 2 1 g__law_free) (c__law_overlap : Callee X "_law_overlap" 1 1 g__law_overlap) (c__law_image : Callee X "_law_image" 1 2 g__law_image) (c__law_rows : Callee X "_law_rows" 1 0 g__law_rows) (c_keeps_overlap_free : Callee X "keeps_overlap_free" 5 1 g_keeps_overlap_free) (c_overlap_paper : Callee X "overlap_paper" 5 1 g_overlap_paper) (k_is_overlap_paper_value_images : CalleeK X "is_overlap_paper" 5 2 g_is_overlap_paper ["value", "images"] [1, 0]) (k_keeps_overlap_free_images : CalleeK X "keeps_overlap_free" 5 1 g_keeps_overlap_free ["images"] [0]) (C : DC X W) (hu : Cu X) (hr : Room 5 X.A) : DSs X W (defBody s__law_one_right) b__law_one_right := by
  obtain ⟨prog, w, K, mg, base, A, N, s0, H0, env, outer, stack, ex, fn, calm, pn, xe⟩ := X
  obtain ⟨scope, locals, globals, cells, qual, func, code, frame, builtins⟩ := env
  cases (show N = N__law_one_right from hN)
  cases (show scope = defScope s__law_one_right from hS)
  cases (show fn = fun _ => true from hF)
  exact ds_cons (ds_par2 (i := 2) (j := 3) C (dep_cons (de_cb (df_repr C.gd hu) (des_cons (de_var (i := 1) rfl (.inr (.inl rfl))) (des_nil)) rfl M.z_repr (by first | exact PyProof.Rows.boot_repr | exact PySem.boot_repr)) (dep_cons (de_call C ⟨c__law_image.ex⟩ (hr.mono (by decide)) rfl (des_cons (de_var (i := 1) rfl (.inr (.inl rfl))) (des_cons (de_str) (des_nil)))) (dep_nil))) rfl rfl (by decide) rfl rfl rfl) (ds_cons (ds_set (i := 4) (de_call C ⟨c__law_overlap.ex⟩ (hr.mono (by decide)) rfl (des_cons (de_var (i := 3) rfl (.inl rfl)) (des_nil))) C.nd rfl (.inl rfl) rfl (.inl rfl)) (ds_cons (ds_set (i := 5) (de_lst (dds_cons (de_call C ⟨c_keeps_overlap_free.ex⟩ (hr.mono (by decide)) rfl (des_cons (de_var (i := 1) rfl (.inr (.inl rfl))) (des_nil))) (dds_cons (de_call C ⟨c_overlap_paper.ex⟩ (hr.mono (by decide)) rfl (des_cons (de_var (i := 1) rfl (.inr (.inl rfl))) (des_nil))) (dds_cons (de_callK C ⟨k_keeps_overlap_free_images.ex⟩ (hr.mono (by decide)) rfl (dks_cons (de_var (i := 1) rfl (.inr (.inl rfl))) (dks_nil))) (dds_nil))))) C.nd rfl (.inl rfl) rfl (.inl rfl)) (ds_cons (ds_if (DW.pt (dw_or (dt_cmp (do_ne hu) (de_cb (df_repr C.gd hu) (des_cons (de_var (i := 5) rfl (.inl rfl)) (des_nil)) rfl M.z_repr (by first | exact PyProof.Rows.boot_repr | exact PySem.boot_repr)) (de_cb (df_repr C.gd hu) (des_cons (de_lst (dds_cons (de_isN (de_var (i := 4) rfl (.inl rfl))) (dds_cons (de_var (i := 4) rfl (.inl rfl)) (dds_cons (de_isN (de_var (i := 4) rfl (.inl rfl))) (dds_nil))))) (des_nil)) rfl M.z_repr (by first | exact PyProof.Rows.boot_repr | exact PySem.boot_repr))) (dw_or1 (dt_cmp (do_ne hu) (de_isN (de_var (i := 4) rfl (.inl rfl))) (de_cmp (do_in hu) (de_var (i := 1) rfl (.inr (.inl rfl))) (de_call0 C ⟨c__law_rows.ex⟩ (hr.mono (by decide)) rfl)))))) (ds_cons (ds_ret (de_bool)) (ds_nil)) (ds_nil)) (ds_cons (ds_if (DW.pt (dw_and (dt_isN (de_var (i := 4) rfl (.inl rfl))) (dw_and1 (dt_truth (de_cb (df_any C.calm) (des_cons (de_lc (own := [("word", 9)]) C (by first | (change blkC N__law_one_right (defScope s__law_one_right) _ _ = true; decide +kernel) | rfl) (di_data (de_call C ⟨c__law_free.ex⟩ (hr.mono (by decide)) rfl (des_cons (de_int) (des_nil)))) (fun st0 H0 a0 cl0 fp0 => dg_name (i := 9) (dc_blk C _ st0 H0 a0 cl0 fp0).nd rfl (.inl rfl) (.inr rfl)) (fun st0 H0 a0 cl0 fp0 => dts_nil) (fun st0 H0 a0 cl0 fp0 => de_notN (de_call (dc_blk C _ st0 H0 a0 cl0 fp0) ⟨c__law_overlap.ex⟩ (hr.mono (by decide)) rfl (des_cons (de_call (dc_blk C _ st0 H0 a0 cl0 fp0) ⟨c__law_image.ex⟩ (hr.mono (by decide)) rfl (des_cons (de_var (i := 1) rfl (.inr (.inl rfl))) (des_cons (de_var (i := 9) rfl (.inl rfl)) (des_nil)))) (des_nil))))) (des_nil)) rfl M.z_any (by first | exact PyProof.Rows.boot_any | exact PySem.boot_any)))))) (ds_cons (ds_ret (de_bool)) (ds_nil)) (ds_nil)) (ds_cons (ds_set (i := 6) (de_lst (dds_cons (de_var (i := 4) rfl (.inl rfl)) (dds_cons (de_tup (dds_cons (de_call C ⟨c__law_draw.ex⟩ (hr.mono (by decide)) rfl (des_cons (de_var (i := 0) rfl (.inl rfl)) (des_cons (de_cb df_len (des_cons (de_var (i := 3) rfl (.inl rfl)) (des_nil)) rfl M.z_len (by first | exact PyProof.Rows.boot_len | exact PySem.boot_len)) (des_nil)))) (dds_cons (de_bin do_add (de_int) (de_call C ⟨c__law_draw.ex⟩ (hr.mono (by decide)) rfl (des_cons (de_var (i := 0) rfl (.inl rfl)) (des_cons (de_int) (des_nil))))) (dds_nil)))) (dds_cons (de_tup (dds_cons (de_int) (dds_cons (de_int) (dds_nil)))) (dds_cons (de_tup (dds_cons (de_int) (dds_cons (de_cb df_len (des_cons (de_var (i := 3) rfl (.inl rfl)) (des_nil)) rfl M.z_len (by first | exact PyProof.Rows.boot_len | exact PySem.boot_len)) (dds_nil)))) (dds_cons (de_lst (dds_cons (de_int) (dds_cons (de_int) (dds_nil)))) (dds_cons (de_tup (dds_cons (de_bool) (dds_cons (de_int) (dds_nil)))) (dds_cons (de_tup (dds_cons (de_int) (dds_cons (de_int) (dds_cons (de_int) (dds_nil))))) (dds_cons (de_none) (dds_nil)))))))))) C.nd rfl (.inl rfl) rfl (.inl rfl)) (ds_cons (ds_for C (di_data (de_var (i := 6) rfl (.inl rfl))) (dg_name (i := 7) C.nd rfl (.inl rfl) (.inl rfl)) (ds_cons (ds_set (i := 8) (de_call C ⟨c__law_says.ex⟩ (hr.mono (by decide)) rfl (des_cons (de_var (i := 3) rfl (.inl rfl)) (des_cons (de_var (i := 7) rfl (.inl rfl)) (des_nil)))) C.nd rfl (.inl rfl) rfl (.inl rfl)) (ds_cons (ds_if (dt_cmp (do_ne hu) (de_cb (df_repr C.gd hu) (des_cons (de_lst (dds_cons (de_call C ⟨c_is_overlap_paper.ex⟩ (hr.mono (by decide)) rfl (des_cons (de_var (i := 1) rfl (.inr (.inl rfl))) (des_cons (de_var (i := 7) rfl (.inl rfl)) (des_nil)))) (dds_cons (de_callK C ⟨k_is_overlap_paper_value_images.ex⟩ (hr.mono (by decide)) rfl (dks_cons (de_var (i := 7) rfl (.inl rfl)) (dks_cons (de_var (i := 1) rfl (.inr (.inl rfl))) (dks_nil)))) (dds_nil)))) (des_nil)) rfl M.z_repr (by first | exact PyProof.Rows.boot_repr | exact PySem.boot_repr)) (de_cb (df_repr C.gd hu) (des_cons (de_lst (dds_cons (de_var (i := 8) rfl (.inl rfl)) (dds_cons (de_var (i := 8) rfl (.inl rfl)) (dds_nil)))) (des_nil)) rfl M.z_repr (by first | exact PyProof.Rows.boot_repr | exact PySem.boot_repr))) (ds_cons (ds_ret (de_bool)) (ds_nil)) (ds_nil)) (ds_nil)))) (ds_cons (ds_ret (de_cmp (do_eq hu) (de_cb (df_repr C.gd hu) (des_cons (de_var (i := 1) rfl (.inr (.inl rfl))) (des_nil)) rfl M.z_repr (by first | exact PyProof.Rows.boot_repr | exact PySem.boot_repr)) (de_var (i := 2) rfl (.inl rfl)))) (ds_nil))))))))
theorem ok__law_one_right {P : Program} {w : World} {K : PySem.W.Frag} {mg : Str → Option Value} {base : Heap} {f : Addr} {fd : FuncData} (F : Fun K "_law_one_right" "_law_one_right" s__law_one_right f fd) (M : Mf mg) (c_is_overlap_paper : CalleeG P w K mg base "is_overlap_paper" 5 2 g_is_overlap_paper) (c__law_says : CalleeG P w K mg base "_law_says" 1 2 g__law_says) (c__law_draw : CalleeG P w K mg base "_law_draw" 1 2 g__law_draw) (c__law_free : CalleeG P w K mg base "_law_free" 2 1 g__law_free) (c__law_overlap : CalleeG P w K mg base "_law_overlap" 1 1 g__law_overlap) (c__law_image : CalleeG P w K mg base "_law_image" 1 2 g__law_image) (c__law_rows : CalleeG P w K mg base "_law_rows" 1 0 g__law_rows) (c_keeps_overlap_free : CalleeG P w K mg base "keeps_overlap_free" 5 1 g_keeps_overlap_free) (c_overlap_paper : CalleeG P w K mg base "overlap_paper" 5 1 g_overlap_paper) (k_is_overlap_paper_value_images : CalleeKG P w K mg base "is_overlap_paper" 5 2 g_is_overlap_paper ["value", "images"] [1, 0]) (k_keeps_overlap_free_images : CalleeKG P w K mg base "keeps_overlap_free" 5 1 g_keeps_overlap_free ["images"] [0]) : FnG P w K mg base 6 f fd ["pot", "images"] (spD K mg 2 g__law_one_right) :=
  fng_body F sc__law_one_right fun X W h1 h2 h3 h4 h5 h6 h7 h8 C hr => by subst h1 h2 h3 h4 h5; exact body__law_one_right h6 h7 h8 M ⟨c_is_overlap_paper.ex⟩ ⟨c__law_says.ex⟩ ⟨c__law_draw.ex⟩ ⟨c__law_free.ex⟩ ⟨c__law_overlap.ex⟩ ⟨c__law_image.ex⟩ ⟨c__law_rows.ex⟩ ⟨c_keeps_overlap_free.ex⟩ ⟨c_overlap_paper.ex⟩ ⟨k_is_overlap_paper_value_images.ex⟩ ⟨k_keeps_overlap_free_images.ex⟩ C (cu_of hr) hr
/-! _law_pick -/
abbrev s__law_pick : Stmt := topS 36
abbrev N__law_pick : List Str := ["pot", "some"]
theorem sc__law_pick : FnScope N__law_pick ["pot", "some"] (defScope s__law_pick) := ⟨rfl, rfl, rfl, by decide +kernel, rfl, by decide +kernel, by decide +kernel⟩
def b__law_pick : DL.Env → Out Fl := fSeq (fRet (fIx (fVar 1) (fCall 2 g__law_draw (fCons (fVar 0) (fCons (fCB opLen (fCons (fVar 1) (fNil))) (fNil)))))) (fNx)
def g__law_pick : FD := fnBody 2 b__law_pick
theorem body__law_pick {X : Cx} {W : WX} (hN : X.N = N__law_pick) (hS : X.env.scope = defScope s__law_pick) (hF : X.fn = fun _ => true) (M : Mf X.mg) (c__law_draw : Callee X "_law_draw" 1 2 g__law_draw)  (C : DC X W) (hu : Cu X) (hr : Room 1 X.A) : DSs X W (defBody s__law_pick) b__law_pick := by
  obtain ⟨prog, w, K, mg, base, A, N, s0, H0, env, outer, stack, ex, fn, calm, pn, xe⟩ := X
  obtain ⟨scope, locals, globals, cells, qual, func, code, frame, builtins⟩ := env
  cases (show N = N__law_pick from hN)
  cases (show scope = defScope s__law_pick from hS)
  cases (show fn = fun _ => true from hF)
  exact ds_cons (ds_ret (de_ix (de_var (i := 1) rfl (.inl rfl)) (de_call C ⟨c__law_draw.ex⟩ (hr.mono (by decide)) rfl (des_cons (de_var (i := 0) rfl (.inl rfl)) (des_cons (de_cb df_len (des_cons (de_var (i := 1) rfl (.inl rfl)) (des_nil)) rfl M.z_len (by first | exact PyProof.Rows.boot_len | exact PySem.boot_len)) (des_nil)))))) (ds_nil)
theorem ok__law_pick {P : Program} {w : World} {K : PySem.W.Frag} {mg : Str → Option Value} {base : Heap} {f : Addr} {fd : FuncData} (F : Fun K "_law_pick" "_law_pick" s__law_pick f fd) (M : Mf mg) (c__law_draw : CalleeG P w K mg base "_law_draw" 1 2 g__law_draw)  : FnG P w K mg base 2 f fd ["pot", "some"] (spD K mg 2 g__law_pick) :=
  fng_body F sc__law_pick fun X W h1 h2 h3 h4 h5 h6 h7 h8 C hr => by subst h1 h2 h3 h4 h5; exact body__law_pick h6 h7 h8 M ⟨c__law_draw.ex⟩  C (cu_of hr) hr
/-! _law_word -/
abbrev s__law_word : Stmt := topS 37
abbrev N__law_word : List Str := ["pot", "letters", "least", "most", "turn"]
theorem sc__law_word : FnScope N__law_word ["pot", "letters", "least", "most"] (defScope s__law_word) := ⟨rfl, rfl, rfl, by decide +kernel, rfl, by decide +kernel, by decide +kernel⟩
def b__law_word : DL.Env → Out Fl := fSeq (fRet (fMt "str" opJoin (fC (.str "")) (fCons (fLc (fIr fRng1 (fCons (fBin opAdd (fVar 2) (fCall 2 g__law_draw (fCons (fVar 0) (fCons (fBin opAdd (fBin opSub (fVar 3) (fVar 2)) (fC (.int 1))) (fNil))))) (fNil))) (gN 4) (fYes) (fCall 2 g__law_pick (fCons (fVar 0) (fCons (fCB opList (fCons (fSl (fC (.str "abc")) (fNo) (fPart (fVar 1))) (fNil))) (fNil)))) [4]) (fNil)))) (fNx)
def g__law_word : FD := fnBody 5 b__law_word
theorem body__law_word {X : Cx} {W : WX} (hN : X.N = N__law_word) (hS : X.env.scope = defScope s__law_word) (hF : X.fn = fun _ => true) (M : Mf X.mg) (c__law_draw : Callee X "_law_draw" 1 2 g__law_draw) (c__law_pick : Callee X "_law_pick" 2 2 g__law_pick)  (C : DC X W) (hu : Cu X) (hr : Room 2 X.A) : DSs X W (defBody s__law_word) b__law_word := by
  obtain ⟨prog, w, K, mg, base, A, N, s0, H0, env, outer, stack, ex, fn, calm, pn, xe⟩ := X
  obtain ⟨scope, locals, globals, cells, qual, func, code, frame, builtins⟩ := env
  cases (show N = N__law_word from hN)
  cases (show scope = defScope s__law_word from hS)
  cases (show fn = fun _ => true from hF)
  exact ds_cons (ds_ret (de_mt (.inl rfl) PySem.F.plainAttrs_str PySem.F.slot_str_join PySem.F.type_str_join dm_join (de_str) (des_cons (de_lc (own := [("turn", 4)]) C (by first | (change blkC N__law_word (defScope s__law_word) _ _ = true; decide +kernel) | rfl) (di_range1 rfl M.z_range (des_cons (de_bin do_add (de_var (i := 2) rfl (.inl rfl)) (de_call C ⟨c__law_draw.ex⟩ (hr.mono (by decide)) rfl (des_cons (de_var (i := 0) rfl (.inr (.inl rfl))) (des_cons (de_bin do_add (de_bin do_sub (de_var (i := 3) rfl (.inl rfl)) (de_var (i := 2) rfl (.inl rfl))) (de_int)) (des_nil))))) (des_nil))) (fun st0 H0 a0 cl0 fp0 => dg_name (i := 4) (dc_blk C _ st0 H0 a0 cl0 fp0).nd rfl (.inl rfl) (.inr rfl)) (fun st0 H0 a0 cl0 fp0 => dts_nil) (fun st0 H0 a0 cl0 fp0 => de_call (dc_blk C _ st0 H0 a0 cl0 fp0) ⟨c__law_pick.ex⟩ (hr.mono (by decide)) rfl (des_cons (de_var (i := 0) rfl (.inr (.inl rfl))) (des_cons (de_cty (df_list (dc_blk C _ st0 H0 a0 cl0 fp0).calm) (des_cons (de_sl (de_str) (dp_none) (dp_some (de_var (i := 1) rfl (.inr (.inl rfl))))) (des_nil)) rfl M.z_list (by first | exact PyProof.Rows.boot_list | exact PySem.boot_list)) (des_nil))))) (des_nil)))) (ds_nil)
theorem ok__law_word {P : Program} {w : World} {K : PySem.W.Frag} {mg : Str → Option Value} {base : Heap} {f : Addr} {fd : FuncData} (F : Fun K "_law_word" "_law_word" s__law_word f fd) (M : Mf mg) (c__law_draw : CalleeG P w K mg base "_law_draw" 1 2 g__law_draw) (c__law_pick : CalleeG P w K mg base "_law_pick" 2 2 g__law_pick)  : FnG P w K mg base 3 f fd ["pot", "letters", "least", "most"] (spD K mg 4 g__law_word) :=
  fng_body F sc__law_word fun X W h1 h2 h3 h4 h5 h6 h7 h8 C hr => by subst h1 h2 h3 h4 h5; exact body__law_word h6 h7 h8 M ⟨c__law_draw.ex⟩ ⟨c__law_pick.ex⟩  C (cu_of hr) hr
/-! _law_images -/
abbrev s__law_images : Stmt := topS 38
abbrev N__law_images : List Str := ["pot", "letters", "most", "letter"]
theorem sc__law_images : FnScope N__law_images ["pot", "letters", "most"] (defScope s__law_images) := ⟨rfl, rfl, rfl, by decide +kernel, rfl, by decide +kernel, by decide +kernel⟩
def b__law_images : DL.Env → Out Fl := fSeq (fRet (fTup (fConsD (fC (.str "images")) (fConsD (fCB opTuple (fCons (fLc (fIr fRng1 (fCons (fVar 1) (fNil))) (gN 3) (fYes) (fCall 4 g__law_word (fCons (fVar 0) (fCons (fVar 1) (fCons (fC (.int 1)) (fCons (fVar 2) (fNil)))))) [3]) (fNil))) (fNilD))))) (fNx)
def g__law_images : FD := fnBody 4 b__law_images
theorem body__law_images {X : Cx} {W : WX} (hN : X.N = N__law_images) (hS : X.env.scope = defScope s__law_images) (hF : X.fn = fun _ => true) (M : Mf X.mg) (c__law_word : Callee X "_law_word" 3 4 g__law_word)  (C : DC X W) (hu : Cu X) (hr : Room 3 X.A) : DSs X W (defBody s__law_images) b__law_images := by
  obtain ⟨prog, w, K, mg, base, A, N, s0, H0, env, outer, stack, ex, fn, calm, pn, xe⟩ := X
  obtain ⟨scope, locals, globals, cells, qual, func, code, frame, builtins⟩ := env
  cases (show N = N__law_images from hN)
  cases (show scope = defScope s__law_images from hS)
  cases (show fn = fun _ => true from hF)
  exact ds_cons (ds_ret (de_tup (dds_cons (de_str) (dds_cons (de_cty df_tuple (des_cons (de_lc (own := [("letter", 3)]) C (by first | (change blkC N__law_images (defScope s__law_images) _ _ = true; decide +kernel) | rfl) (di_range1 rfl M.z_range (des_cons (de_var (i := 1) rfl (.inr (.inl rfl))) (des_nil))) (fun st0 H0 a0 cl0 fp0 => dg_name (i := 3) (dc_blk C _ st0 H0 a0 cl0 fp0).nd rfl (.inl rfl) (.inr rfl)) (fun st0 H0 a0 cl0 fp0 => dts_nil) (fun st0 H0 a0 cl0 fp0 => de_call (dc_blk C _ st0 H0 a0 cl0 fp0) ⟨c__law_word.ex⟩ (hr.mono (by decide)) rfl (des_cons (de_var (i := 0) rfl (.inr (.inl rfl))) (des_cons (de_var (i := 1) rfl (.inr (.inl rfl))) (des_cons (de_int) (des_cons (de_var (i := 2) rfl (.inr (.inl rfl))) (des_nil))))))) (des_nil)) rfl M.z_tuple (by first | exact PyProof.Rows.boot_tuple | exact PySem.boot_tuple)) (dds_nil))))) (ds_nil)
theorem ok__law_images {P : Program} {w : World} {K : PySem.W.Frag} {mg : Str → Option Value} {base : Heap} {f : Addr} {fd : FuncData} (F : Fun K "_law_images" "_law_images" s__law_images f fd) (M : Mf mg) (c__law_word : CalleeG P w K mg base "_law_word" 3 4 g__law_word)  : FnG P w K mg base 4 f fd ["pot", "letters", "most"] (spD K mg 3 g__law_images) :=
  fng_body F sc__law_images fun X W h1 h2 h3 h4 h5 h6 h7 h8 C hr => by subst h1 h2 h3 h4 h5; exact body__law_images h6 h7 h8 M ⟨c__law_word.ex⟩  C (cu_of hr) hr
/-! _law_pot -/
abbrev s__law_pot : Stmt := topS 34
abbrev N__law_pot : List Str := ["script", "k", "cell", "mixed"]
theorem sc__law_pot : FnScope N__law_pot ["script", "k"] (defScope s__law_pot) := ⟨rfl, rfl, rfl, by decide +kernel, rfl, by decide +kernel, by decide +kernel⟩
def b__law_pot : DL.Env → Out Fl := fSeq (dSet 2 (vIf (fBool (fBin opLt (fVar 1) (fCB opLen (fCons (fVar 0) (fNil))))) (fCB opAbs (fCons (fIx (fVar 0) (fVar 1)) (fNil))) (fBin opAdd (fBin opMul (fC (.int 887)) (fVar 1)) (fC (.int 219))))) (fSeq (dSet 3 (fBin opAdd (fBin opMod (fCB opInt (fCons (fBin opAdd (fBin opAdd (fBin opMul (fBin opMod (fCB opInt (fCons (fVar 2) (fNil))) (fC (.int 2147483549))) (fC (.int 40692))) (fBin opMul (fC (.int 4909)) (fVar 1))) (fC (.int 137))) (fNil))) (fC (.int 2147483563))) (fC (.int 1)))) (fSeq (fRet (fLst (fConsD (fCB opMax2 (fCons (fC (.int 0)) (fCons (fBin opSub (fVar 2) (fBin opPow (fC (.int 10)) (fC (.int 18)))) (fNil)))) (fConsD (fVar 3) (fNilD))))) (fNx)))
def g__law_pot : FD := fnBody 4 b__law_pot
theorem body__law_pot {X : Cx} {W : WX} (hN : X.N = N__law_pot) (hS : X.env.scope = defScope s__law_pot) (hF : X.fn = fun _ => true) (M : Mf X.mg)   (C : DC X W) (hu : Cu X) (hr : Room 0 X.A) : DSs X W (defBody s__law_pot) b__law_pot := by
  obtain ⟨prog, w, K, mg, base, A, N, s0, H0, env, outer, stack, ex, fn, calm, pn, xe⟩ := X
  obtain ⟨scope, locals, globals, cells, qual, func, code, frame, builtins⟩ := env
  cases (show N = N__law_pot from hN)
  cases (show scope = defScope s__law_pot from hS)
  cases (show fn = fun _ => true from hF)
  exact ds_cons (ds_set (i := 2) (de_if (dt_cmp (do_lt hu) (de_var (i := 1) rfl (.inl rfl)) (de_cb df_len (des_cons (de_var (i := 0) rfl (.inl rfl)) (des_nil)) rfl M.z_len (by first | exact PyProof.Rows.boot_len | exact PySem.boot_len))) (de_cb df_abs (des_cons (de_ix (de_var (i := 0) rfl (.inl rfl)) (de_var (i := 1) rfl (.inl rfl))) (des_nil)) rfl M.z_abs (by first | exact PyProof.Rows.boot_abs | exact PySem.boot_abs)) (de_bin do_add (de_bin do_mul (de_int) (de_var (i := 1) rfl (.inl rfl))) (de_int))) C.nd rfl (.inl rfl) rfl (.inl rfl)) (ds_cons (ds_set (i := 3) (de_bin do_add (de_bin do_mod (de_cty df_int (des_cons (de_bin do_add (de_bin do_add (de_bin do_mul (de_bin do_mod (de_cty df_int (des_cons (de_var (i := 2) rfl (.inl rfl)) (des_nil)) rfl M.z_int (by first | exact PyProof.Rows.boot_int | exact PySem.boot_int)) (de_int)) (de_int)) (de_bin do_mul (de_int) (de_var (i := 1) rfl (.inl rfl)))) (de_int)) (des_nil)) rfl M.z_int (by first | exact PyProof.Rows.boot_int | exact PySem.boot_int)) (de_int)) (de_int)) C.nd rfl (.inl rfl) rfl (.inl rfl)) (ds_cons (ds_ret (de_lst (dds_cons (de_cb (df_max2 C.calm) (des_cons (de_int) (des_cons (de_bin do_sub (de_var (i := 2) rfl (.inl rfl)) (de_bin do_pow (de_int) (de_int))) (des_nil))) rfl M.z_max (by first | exact PyProof.Rows.boot_max | exact PySem.boot_max)) (dds_cons (de_var (i := 3) rfl (.inl rfl)) (dds_nil))))) (ds_nil)))
theorem ok__law_pot {P : Program} {w : World} {K : PySem.W.Frag} {mg : Str → Option Value} {base : Heap} {f : Addr} {fd : FuncData} (F : Fun K "_law_pot" "_law_pot" s__law_pot f fd) (M : Mf mg)   : FnG P w K mg base 1 f fd ["script", "k"] (spD K mg 2 g__law_pot) :=
  fng_body F sc__law_pot fun X W h1 h2 h3 h4 h5 h6 h7 h8 C hr => by subst h1 h2 h3 h4 h5; exact body__law_pot h6 h7 h8 M   C (cu_of hr) hr
/-! law -/
abbrev s_law : Stmt := topS 47
abbrev N_law : List Str := ["script", "pot", "late", "good", "at", "one", "place", "turned", "bent", "some", "here", "images"]
theorem sc_law : FnScope N_law ["script"] (defScope s_law) := ⟨rfl, rfl, rfl, by decide +kernel, rfl, by decide +kernel, by decide +kernel⟩
def b_law : DL.Env → Out Fl := fSeq (dPar [1, 2] (fConsP (fCall 2 g__law_pot (fCons (fVar 0) (fCons (fC (.int 0)) (fNil)))) (fConsP (fCall 2 g__law_pot (fCons (fVar 0) (fCons (fC (.int 1)) (fNil)))) (fNil)))) (fSeq (dSet 3 (fCall 2 g__law_pick (fCons (fVar 1) (fCons (fCall 0 g__law_rows fNil) (fNil))))) (fSeq (dSet 4 (fCall 2 g__law_draw (fCons (fVar 1) (fCons (fC (.int 2)) (fNil))))) (fSeq (dSet 5 (fIx (fIx (fVar 3) (fC (.int 1))) (fVar 4))) (fSeq (dSet 6 (fCall 2 g__law_draw (fCons (fVar 2) (fCons (fCB opLen (fCons (fVar 5) (fNil))) (fNil))))) (fSeq (dSet 7 (fBin opAdd (fBin opAdd (fSl (fVar 5) (fNo) (fPart (fVar 6))) (vIf (fBool (fBin opEq (fIx (fVar 5) (fVar 6)) (fC (.str "a")))) (fC (.str "b")) (fC (.str "a")))) (fSl (fVar 5) (fPart (fBin opAdd (fVar 6) (fC (.int 1)))) (fNo)))) (fSeq (dSet 8 (fTup (fConsD (fC (.str "images")) (fConsD (fCB opTuple (fCons (fLc (fIr enumV (fCons (fIx (fVar 3) (fC (.int 1))) (fNil))) (gT 2 (gCons (gN 10) (gCons (gN 9) (gNil)))) (fYes) (vIf (fBool (fBin opEq (fVar 10) (fVar 4))) (fVar 7) (fVar 9)) [10, 9]) (fNil))) (fNilD))))) (fSeq (dSet 9 (fLst (fConsD (fVar 3) (fConsD (fVar 8) (fConsD (fCall 3 g__law_images (fCons (fVar 1) (fCons (fC (.int 2)) (fCons (fC (.int 4)) (fNil))))) (fConsD (fCall 3 g__law_images (fCons (fVar 2) (fCons (fC (.int 2)) (fCons (fC (.int 2)) (fNil))))) (fNilD))))))) (fSeq (fRet (fCB opAll (fCons (fLc (dIt (fVar 9)) (gN 11) (fYes) (fCall 2 g__law_one_right (fCons (fVar 2) (fCons (fVar 11) (fNil)))) [11]) (fNil)))) (fNx)))))))))
def g_law : FD := fnBody 12 b_law
theorem body_law {X : Cx} {W : WX} (hN : X.N = N_law) (hS : X.env.scope = defScope s_law) (hF : X.fn = fun _ => true) (M : Mf X.mg) (c__law_one_right : Callee X "_law_one_right" 6 2 g__law_one_right) (c__law_images : Callee X "_law_images" 4 3 g__law_images) (c__law_draw : Callee X "_law_draw" 1 2 g__law_draw) (c__law_pick : Callee X "_law_pick" 2 2 g__law_pick) (c__law_rows : Callee X "_law_rows" 1 0 g__law_rows) (c__law_pot : Callee X "_law_pot" 1 2 g__law_pot)  (C : DC X W) (hu : Cu X) (hr : Room 6 X.A) : DSs X W (defBody s_law) b_law := by
  obtain ⟨prog, w, K, mg, base, A, N, s0, H0, env, outer, stack, ex, fn, calm, pn, xe⟩ := X
  obtain ⟨scope, locals, globals, cells, qual, func, code, frame, builtins⟩ := env
  cases (show N = N_law from hN)
  cases (show scope = defScope s_law from hS)
  cases (show fn = fun _ => true from hF)
  exact ds_cons (ds_parC2 C (dep_cons (de_call C ⟨c__law_pot.ex⟩ (hr.mono (by decide)) rfl (des_cons (de_var (i := 0) rfl (.inl rfl)) (des_cons (de_int) (des_nil)))) (dep_cons (de_call C ⟨c__law_pot.ex⟩ (hr.mono (by decide)) rfl (des_cons (de_var (i := 0) rfl (.inl rfl)) (des_cons (de_int) (des_nil)))) (dep_nil))) (i0 := 1) (i1 := 2) rfl rfl (.inl rfl) (.inr rfl) (.inl rfl) (.inl rfl)) (ds_cons (ds_set (i := 3) (de_call C ⟨c__law_pick.ex⟩ (hr.mono (by decide)) rfl (des_cons (de_var (i := 1) rfl (.inl rfl)) (des_cons (de_call0 C ⟨c__law_rows.ex⟩ (hr.mono (by decide)) rfl) (des_nil)))) C.nd rfl (.inl rfl) rfl (.inl rfl)) (ds_cons (ds_set (i := 4) (de_call C ⟨c__law_draw.ex⟩ (hr.mono (by decide)) rfl (des_cons (de_var (i := 1) rfl (.inl rfl)) (des_cons (de_int) (des_nil)))) C.nd rfl (.inr rfl) rfl (.inl rfl)) (ds_cons (ds_set (i := 5) (de_ix (de_ix (de_var (i := 3) rfl (.inl rfl)) (de_int)) (de_var (i := 4) rfl (.inr (.inl rfl)))) C.nd rfl (.inl rfl) rfl (.inl rfl)) (ds_cons (ds_set (i := 6) (de_call C ⟨c__law_draw.ex⟩ (hr.mono (by decide)) rfl (des_cons (de_var (i := 2) rfl (.inr (.inl rfl))) (des_cons (de_cb df_len (des_cons (de_var (i := 5) rfl (.inl rfl)) (des_nil)) rfl M.z_len (by first | exact PyProof.Rows.boot_len | exact PySem.boot_len)) (des_nil)))) C.nd rfl (.inl rfl) rfl (.inl rfl)) (ds_cons (ds_set (i := 7) (de_bin do_add (de_bin do_add (de_sl (de_var (i := 5) rfl (.inl rfl)) (dp_none) (dp_some (de_var (i := 6) rfl (.inl rfl)))) (de_if (dt_cmp (do_eq hu) (de_ix (de_var (i := 5) rfl (.inl rfl)) (de_var (i := 6) rfl (.inl rfl))) (de_str)) (de_str) (de_str))) (de_sl (de_var (i := 5) rfl (.inl rfl)) (dp_some (de_bin do_add (de_var (i := 6) rfl (.inl rfl)) (de_int))) (dp_none))) C.nd rfl (.inr rfl) rfl (.inl rfl)) (ds_cons (ds_set (i := 8) (de_tup (dds_cons (de_str) (dds_cons (de_cty df_tuple (des_cons (de_lc (own := [("here", 10), ("some", 9)]) C (by first | (change blkC N_law (defScope s_law) _ _ = true; decide +kernel) | rfl) (di_enum rfl M.z_enumerate (des_cons (de_ix (de_var (i := 3) rfl (.inl rfl)) (de_int)) (des_nil))) (fun st0 H0 a0 cl0 fp0 => dg_tup (dc_blk C _ st0 H0 a0 cl0 fp0).calm (dgs_cons (dg_name (i := 10) (dc_blk C _ st0 H0 a0 cl0 fp0).nd rfl (.inl rfl) (.inr rfl)) (dgs_cons (dg_name (i := 9) (dc_blk C _ st0 H0 a0 cl0 fp0).nd rfl (.inl rfl) (.inr rfl)) (dgs_nil)))) (fun st0 H0 a0 cl0 fp0 => dts_nil) (fun st0 H0 a0 cl0 fp0 => de_if (dt_cmp (do_eq hu) (de_var (i := 10) rfl (.inl rfl)) (de_var (i := 4) rfl (.inr (.inl rfl)))) (de_var (i := 7) rfl (.inr (.inl rfl))) (de_var (i := 9) rfl (.inl rfl)))) (des_nil)) rfl M.z_tuple (by first | exact PyProof.Rows.boot_tuple | exact PySem.boot_tuple)) (dds_nil)))) C.nd rfl (.inl rfl) rfl (.inl rfl)) (ds_cons (ds_set (i := 9) (de_lst (dds_cons (de_var (i := 3) rfl (.inl rfl)) (dds_cons (de_var (i := 8) rfl (.inl rfl)) (dds_cons (de_call C ⟨c__law_images.ex⟩ (hr.mono (by decide)) rfl (des_cons (de_var (i := 1) rfl (.inl rfl)) (des_cons (de_int) (des_cons (de_int) (des_nil))))) (dds_cons (de_call C ⟨c__law_images.ex⟩ (hr.mono (by decide)) rfl (des_cons (de_var (i := 2) rfl (.inr (.inl rfl))) (des_cons (de_int) (des_cons (de_int) (des_nil))))) (dds_nil)))))) C.nd rfl (.inl rfl) rfl (.inl rfl)) (ds_cons (ds_ret (de_cb (df_all C.calm) (des_cons (de_lc (own := [("images", 11)]) C (by first | (change blkC N_law (defScope s_law) _ _ = true; decide +kernel) | rfl) (di_data (de_var (i := 9) rfl (.inl rfl))) (fun st0 H0 a0 cl0 fp0 => dg_name (i := 11) (dc_blk C _ st0 H0 a0 cl0 fp0).nd rfl (.inl rfl) (.inr rfl)) (fun st0 H0 a0 cl0 fp0 => dts_nil) (fun st0 H0 a0 cl0 fp0 => de_call (dc_blk C _ st0 H0 a0 cl0 fp0) ⟨c__law_one_right.ex⟩ (hr.mono (by decide)) rfl (des_cons (de_var (i := 2) rfl (.inr (.inl rfl))) (des_cons (de_var (i := 11) rfl (.inl rfl)) (des_nil))))) (des_nil)) rfl M.z_all (by first | exact PyProof.Rows.boot_all | exact PySem.boot_all))) (ds_nil)))))))))
theorem ok_law {P : Program} {w : World} {K : PySem.W.Frag} {mg : Str → Option Value} {base : Heap} {f : Addr} {fd : FuncData} (F : Fun K "law" "law" s_law f fd) (M : Mf mg) (c__law_one_right : CalleeG P w K mg base "_law_one_right" 6 2 g__law_one_right) (c__law_images : CalleeG P w K mg base "_law_images" 4 3 g__law_images) (c__law_draw : CalleeG P w K mg base "_law_draw" 1 2 g__law_draw) (c__law_pick : CalleeG P w K mg base "_law_pick" 2 2 g__law_pick) (c__law_rows : CalleeG P w K mg base "_law_rows" 1 0 g__law_rows) (c__law_pot : CalleeG P w K mg base "_law_pot" 1 2 g__law_pot)  : FnG P w K mg base 7 f fd ["script"] (spD K mg 1 g_law) :=
  fng_body F sc_law fun X W h1 h2 h3 h4 h5 h6 h7 h8 C hr => by subst h1 h2 h3 h4 h5; exact body_law h6 h7 h8 M ⟨c__law_one_right.ex⟩ ⟨c__law_images.ex⟩ ⟨c__law_draw.ex⟩ ⟨c__law_pick.ex⟩ ⟨c__law_rows.ex⟩ ⟨c__law_pot.ex⟩  C (cu_of hr) hr
theorem all_mk {P : Program} {w : World} {K : PySem.W.Frag} {h : Heap} {mg : Str → Option Value} {fa f_is_overlap_at f_image_of f_is_integer f_is_count f_letters_of f_over f_images_are_right f_check_images f_check_two f_is_overlap_paper f__law_says f__law_draw f__law_overlap f__law_free f__law_image f__law_rows f_long_stretches f_root_round f_runs_of f_letters_asked f_first_of f_keeps_overlap_free f_first_at f_overlap_paper f__law_one_right f__law_pick f__law_word f__law_images f__law_pot f_law : Addr} (X : K.In h) (G : h.Ns mainGlobals mg) (hfa : mg "law" = some (.ref fa))
    {od_is_overlap_at an_is_overlap_at od_image_of an_image_of od_is_integer an_is_integer od_is_count an_is_count od_letters_of an_letters_of od_over an_over od_images_are_right an_images_are_right od_check_images an_check_images od_check_two an_check_two od_is_overlap_paper an_is_overlap_paper od__law_says an__law_says od__law_draw an__law_draw od__law_overlap an__law_overlap od__law_free an__law_free od__law_image an__law_image od__law_rows an__law_rows od_long_stretches an_long_stretches od_root_round an_root_round od_runs_of an_runs_of od_letters_asked an_letters_asked od_first_of an_first_of od_keeps_overlap_free an_keeps_overlap_free od_first_at an_first_at od_overlap_paper an_overlap_paper od__law_one_right an__law_one_right od__law_pick an__law_pick od__law_word an__law_word od__law_images an__law_images od__law_pot an__law_pot od_law an_law : Option Addr} {sl_is_overlap_at sl_image_of sl_is_integer sl_is_count sl_letters_of sl_over sl_images_are_right sl_check_images sl_check_two sl_is_overlap_paper sl__law_says sl__law_draw sl__law_overlap sl__law_free sl__law_image sl__law_rows sl_long_stretches sl_root_round sl_runs_of sl_letters_asked sl_first_of sl_keeps_overlap_free sl_first_at sl_overlap_paper sl__law_one_right sl__law_pick sl__law_word sl__law_images sl__law_pot sl_law : Array (Option Value)} {oc_is_overlap_at kV_is_overlap_at dc_is_overlap_at pm_is_overlap_at cd_is_overlap_at ct_is_overlap_at oc_image_of kV_image_of dc_image_of pm_image_of cd_image_of ct_image_of oc_is_integer kV_is_integer dc_is_integer pm_is_integer cd_is_integer ct_is_integer oc_is_count kV_is_count dc_is_count pm_is_count cd_is_count ct_is_count oc_letters_of kV_letters_of dc_letters_of pm_letters_of cd_letters_of ct_letters_of oc_over kV_over dc_over pm_over cd_over ct_over oc_images_are_right kV_images_are_right dc_images_are_right pm_images_are_right cd_images_are_right ct_images_are_right oc_check_images kV_check_images dc_check_images pm_check_images cd_check_images ct_check_images oc_check_two kV_check_two dc_check_two pm_check_two cd_check_two ct_check_two oc_is_overlap_paper kV_is_overlap_paper dc_is_overlap_paper pm_is_overlap_paper cd_is_overlap_paper ct_is_overlap_paper oc__law_says kV__law_says dc__law_says pm__law_says cd__law_says ct__law_says oc__law_draw kV__law_draw dc__law_draw pm__law_draw cd__law_draw ct__law_draw oc__law_overlap kV__law_overlap dc__law_overlap pm__law_overlap cd__law_overlap ct__law_overlap oc__law_free kV__law_free dc__law_free pm__law_free cd__law_free ct__law_free oc__law_image kV__law_image dc__law_image pm__law_image cd__law_image ct__law_image oc__law_rows kV__law_rows dc__law_rows pm__law_rows cd__law_rows ct__law_rows oc_long_stretches kV_long_stretches dc_long_stretches pm_long_stretches cd_long_stretches ct_long_stretches oc_root_round kV_root_round dc_root_round pm_root_round cd_root_round ct_root_round oc_runs_of kV_runs_of dc_runs_of pm_runs_of cd_runs_of ct_runs_of oc_letters_asked kV_letters_asked dc_letters_asked pm_letters_asked cd_letters_asked ct_letters_asked oc_first_of kV_first_of dc_first_of pm_first_of cd_first_of ct_first_of oc_keeps_overlap_free kV_keeps_overlap_free dc_keeps_overlap_free pm_keeps_overlap_free cd_keeps_overlap_free ct_keeps_overlap_free oc_first_at kV_first_at dc_first_at pm_first_at cd_first_at ct_first_at oc_overlap_paper kV_overlap_paper dc_overlap_paper pm_overlap_paper cd_overlap_paper ct_overlap_paper oc__law_one_right kV__law_one_right dc__law_one_right pm__law_one_right cd__law_one_right ct__law_one_right oc__law_pick kV__law_pick dc__law_pick pm__law_pick cd__law_pick ct__law_pick oc__law_word kV__law_word dc__law_word pm__law_word cd__law_word ct__law_word oc__law_images kV__law_images dc__law_images pm__law_images cd__law_images ct__law_images oc__law_pot kV__law_pot dc__law_pot pm__law_pot cd__law_pot ct__law_pot oc_law kV_law dc_law pm_law cd_law ct_law : Value} {t_ALL t_CUBES t_MOST_IMAGE t_OVERLAPS t_SQUARES t_TEST : Tok}
    (a_is_overlap_at : PySem.W.nsIn K mainGlobals "is_overlap_at" = some (some (.ref f_is_overlap_at))) (l_is_overlap_at : K.lookup f_is_overlap_at = some ⟨oc_is_overlap_at, od_is_overlap_at, .func (PySem.W.fnOf "is_overlap_at" "is_overlap_at" (defArgs s_is_overlap_at) (defBody s_is_overlap_at) (defScope s_is_overlap_at) .none kV_is_overlap_at dc_is_overlap_at pm_is_overlap_at an_is_overlap_at cd_is_overlap_at ct_is_overlap_at), sl_is_overlap_at⟩) (c_is_overlap_at : PySem.W.codeIn K cd_is_overlap_at "is_overlap_at" = true) (k_is_overlap_at : PySem.W.keepIn K (.ref f_is_overlap_at) = true)
    (a_image_of : PySem.W.nsIn K mainGlobals "image_of" = some (some (.ref f_image_of))) (l_image_of : K.lookup f_image_of = some ⟨oc_image_of, od_image_of, .func (PySem.W.fnOf "image_of" "image_of" (defArgs s_image_of) (defBody s_image_of) (defScope s_image_of) .none kV_image_of dc_image_of pm_image_of an_image_of cd_image_of ct_image_of), sl_image_of⟩) (c_image_of : PySem.W.codeIn K cd_image_of "image_of" = true) (k_image_of : PySem.W.keepIn K (.ref f_image_of) = true)
    (a_is_integer : PySem.W.nsIn K mainGlobals "is_integer" = some (some (.ref f_is_integer))) (l_is_integer : K.lookup f_is_integer = some ⟨oc_is_integer, od_is_integer, .func (PySem.W.fnOf "is_integer" "is_integer" (defArgs s_is_integer) (defBody s_is_integer) (defScope s_is_integer) .none kV_is_integer dc_is_integer pm_is_integer an_is_integer cd_is_integer ct_is_integer), sl_is_integer⟩) (c_is_integer : PySem.W.codeIn K cd_is_integer "is_integer" = true) (k_is_integer : PySem.W.keepIn K (.ref f_is_integer) = true)
    (a_is_count : PySem.W.nsIn K mainGlobals "is_count" = some (some (.ref f_is_count))) (l_is_count : K.lookup f_is_count = some ⟨oc_is_count, od_is_count, .func (PySem.W.fnOf "is_count" "is_count" (defArgs s_is_count) (defBody s_is_count) (defScope s_is_count) .none kV_is_count dc_is_count pm_is_count an_is_count cd_is_count ct_is_count), sl_is_count⟩) (c_is_count : PySem.W.codeIn K cd_is_count "is_count" = true) (k_is_count : PySem.W.keepIn K (.ref f_is_count) = true)
    (a_letters_of : PySem.W.nsIn K mainGlobals "letters_of" = some (some (.ref f_letters_of))) (l_letters_of : K.lookup f_letters_of = some ⟨oc_letters_of, od_letters_of, .func (PySem.W.fnOf "letters_of" "letters_of" (defArgs s_letters_of) (defBody s_letters_of) (defScope s_letters_of) .none kV_letters_of dc_letters_of pm_letters_of an_letters_of cd_letters_of ct_letters_of), sl_letters_of⟩) (c_letters_of : PySem.W.codeIn K cd_letters_of "letters_of" = true) (k_letters_of : PySem.W.keepIn K (.ref f_letters_of) = true)
    (a_over : PySem.W.nsIn K mainGlobals "over" = some (some (.ref f_over))) (l_over : K.lookup f_over = some ⟨oc_over, od_over, .func (PySem.W.fnOf "over" "over" (defArgs s_over) (defBody s_over) (defScope s_over) .none kV_over dc_over pm_over an_over cd_over ct_over), sl_over⟩) (c_over : PySem.W.codeIn K cd_over "over" = true) (k_over : PySem.W.keepIn K (.ref f_over) = true)
    (a_images_are_right : PySem.W.nsIn K mainGlobals "images_are_right" = some (some (.ref f_images_are_right))) (l_images_are_right : K.lookup f_images_are_right = some ⟨oc_images_are_right, od_images_are_right, .func (PySem.W.fnOf "images_are_right" "images_are_right" (defArgs s_images_are_right) (defBody s_images_are_right) (defScope s_images_are_right) .none kV_images_are_right dc_images_are_right pm_images_are_right an_images_are_right cd_images_are_right ct_images_are_right), sl_images_are_right⟩) (c_images_are_right : PySem.W.codeIn K cd_images_are_right "images_are_right" = true) (k_images_are_right : PySem.W.keepIn K (.ref f_images_are_right) = true)
    (a_check_images : PySem.W.nsIn K mainGlobals "check_images" = some (some (.ref f_check_images))) (l_check_images : K.lookup f_check_images = some ⟨oc_check_images, od_check_images, .func (PySem.W.fnOf "check_images" "check_images" (defArgs s_check_images) (defBody s_check_images) (defScope s_check_images) .none kV_check_images dc_check_images pm_check_images an_check_images cd_check_images ct_check_images), sl_check_images⟩) (c_check_images : PySem.W.codeIn K cd_check_images "check_images" = true) (k_check_images : PySem.W.keepIn K (.ref f_check_images) = true)
    (a_check_two : PySem.W.nsIn K mainGlobals "check_two" = some (some (.ref f_check_two))) (l_check_two : K.lookup f_check_two = some ⟨oc_check_two, od_check_two, .func (PySem.W.fnOf "check_two" "check_two" (defArgs s_check_two) (defBody s_check_two) (defScope s_check_two) .none kV_check_two dc_check_two pm_check_two an_check_two cd_check_two ct_check_two), sl_check_two⟩) (c_check_two : PySem.W.codeIn K cd_check_two "check_two" = true) (k_check_two : PySem.W.keepIn K (.ref f_check_two) = true)
    (a_is_overlap_paper : PySem.W.nsIn K mainGlobals "is_overlap_paper" = some (some (.ref f_is_overlap_paper))) (l_is_overlap_paper : K.lookup f_is_overlap_paper = some ⟨oc_is_overlap_paper, od_is_overlap_paper, .func (PySem.W.fnOf "is_overlap_paper" "is_overlap_paper" (defArgs s_is_overlap_paper) (defBody s_is_overlap_paper) (defScope s_is_overlap_paper) .none kV_is_overlap_paper dc_is_overlap_paper pm_is_overlap_paper an_is_overlap_paper cd_is_overlap_paper ct_is_overlap_paper), sl_is_overlap_paper⟩) (c_is_overlap_paper : PySem.W.codeIn K cd_is_overlap_paper "is_overlap_paper" = true) (k_is_overlap_paper : PySem.W.keepIn K (.ref f_is_overlap_paper) = true)
    (a__law_says : PySem.W.nsIn K mainGlobals "_law_says" = some (some (.ref f__law_says))) (l__law_says : K.lookup f__law_says = some ⟨oc__law_says, od__law_says, .func (PySem.W.fnOf "_law_says" "_law_says" (defArgs s__law_says) (defBody s__law_says) (defScope s__law_says) .none kV__law_says dc__law_says pm__law_says an__law_says cd__law_says ct__law_says), sl__law_says⟩) (c__law_says : PySem.W.codeIn K cd__law_says "_law_says" = true) (k__law_says : PySem.W.keepIn K (.ref f__law_says) = true)
    (a__law_draw : PySem.W.nsIn K mainGlobals "_law_draw" = some (some (.ref f__law_draw))) (l__law_draw : K.lookup f__law_draw = some ⟨oc__law_draw, od__law_draw, .func (PySem.W.fnOf "_law_draw" "_law_draw" (defArgs s__law_draw) (defBody s__law_draw) (defScope s__law_draw) .none kV__law_draw dc__law_draw pm__law_draw an__law_draw cd__law_draw ct__law_draw), sl__law_draw⟩) (c__law_draw : PySem.W.codeIn K cd__law_draw "_law_draw" = true) (k__law_draw : PySem.W.keepIn K (.ref f__law_draw) = true)
    (a__law_overlap : PySem.W.nsIn K mainGlobals "_law_overlap" = some (some (.ref f__law_overlap))) (l__law_overlap : K.lookup f__law_overlap = some ⟨oc__law_overlap, od__law_overlap, .func (PySem.W.fnOf "_law_overlap" "_law_overlap" (defArgs s__law_overlap) (defBody s__law_overlap) (defScope s__law_overlap) .none kV__law_overlap dc__law_overlap pm__law_overlap an__law_overlap cd__law_overlap ct__law_overlap), sl__law_overlap⟩) (c__law_overlap : PySem.W.codeIn K cd__law_overlap "_law_overlap" = true) (k__law_overlap : PySem.W.keepIn K (.ref f__law_overlap) = true)
    (a__law_free : PySem.W.nsIn K mainGlobals "_law_free" = some (some (.ref f__law_free))) (l__law_free : K.lookup f__law_free = some ⟨oc__law_free, od__law_free, .func (PySem.W.fnOf "_law_free" "_law_free" (defArgs s__law_free) (defBody s__law_free) (defScope s__law_free) .none kV__law_free dc__law_free pm__law_free an__law_free cd__law_free ct__law_free), sl__law_free⟩) (c__law_free : PySem.W.codeIn K cd__law_free "_law_free" = true) (k__law_free : PySem.W.keepIn K (.ref f__law_free) = true)
    (a__law_image : PySem.W.nsIn K mainGlobals "_law_image" = some (some (.ref f__law_image))) (l__law_image : K.lookup f__law_image = some ⟨oc__law_image, od__law_image, .func (PySem.W.fnOf "_law_image" "_law_image" (defArgs s__law_image) (defBody s__law_image) (defScope s__law_image) .none kV__law_image dc__law_image pm__law_image an__law_image cd__law_image ct__law_image), sl__law_image⟩) (c__law_image : PySem.W.codeIn K cd__law_image "_law_image" = true) (k__law_image : PySem.W.keepIn K (.ref f__law_image) = true)
    (a__law_rows : PySem.W.nsIn K mainGlobals "_law_rows" = some (some (.ref f__law_rows))) (l__law_rows : K.lookup f__law_rows = some ⟨oc__law_rows, od__law_rows, .func (PySem.W.fnOf "_law_rows" "_law_rows" (defArgs s__law_rows) (defBody s__law_rows) (defScope s__law_rows) .none kV__law_rows dc__law_rows pm__law_rows an__law_rows cd__law_rows ct__law_rows), sl__law_rows⟩) (c__law_rows : PySem.W.codeIn K cd__law_rows "_law_rows" = true) (k__law_rows : PySem.W.keepIn K (.ref f__law_rows) = true)
    (a_long_stretches : PySem.W.nsIn K mainGlobals "long_stretches" = some (some (.ref f_long_stretches))) (l_long_stretches : K.lookup f_long_stretches = some ⟨oc_long_stretches, od_long_stretches, .func (PySem.W.fnOf "long_stretches" "long_stretches" (defArgs s_long_stretches) (defBody s_long_stretches) (defScope s_long_stretches) .none kV_long_stretches dc_long_stretches pm_long_stretches an_long_stretches cd_long_stretches ct_long_stretches), sl_long_stretches⟩) (c_long_stretches : PySem.W.codeIn K cd_long_stretches "long_stretches" = true) (k_long_stretches : PySem.W.keepIn K (.ref f_long_stretches) = true)
    (a_root_round : PySem.W.nsIn K mainGlobals "root_round" = some (some (.ref f_root_round))) (l_root_round : K.lookup f_root_round = some ⟨oc_root_round, od_root_round, .func (PySem.W.fnOf "root_round" "root_round" (defArgs s_root_round) (defBody s_root_round) (defScope s_root_round) .none kV_root_round dc_root_round pm_root_round an_root_round cd_root_round ct_root_round), sl_root_round⟩) (c_root_round : PySem.W.codeIn K cd_root_round "root_round" = true) (k_root_round : PySem.W.keepIn K (.ref f_root_round) = true)
    (a_runs_of : PySem.W.nsIn K mainGlobals "runs_of" = some (some (.ref f_runs_of))) (l_runs_of : K.lookup f_runs_of = some ⟨oc_runs_of, od_runs_of, .func (PySem.W.fnOf "runs_of" "runs_of" (defArgs s_runs_of) (defBody s_runs_of) (defScope s_runs_of) .none kV_runs_of dc_runs_of pm_runs_of an_runs_of cd_runs_of ct_runs_of), sl_runs_of⟩) (c_runs_of : PySem.W.codeIn K cd_runs_of "runs_of" = true) (k_runs_of : PySem.W.keepIn K (.ref f_runs_of) = true)
    (a_letters_asked : PySem.W.nsIn K mainGlobals "letters_asked" = some (some (.ref f_letters_asked))) (l_letters_asked : K.lookup f_letters_asked = some ⟨oc_letters_asked, od_letters_asked, .func (PySem.W.fnOf "letters_asked" "letters_asked" (defArgs s_letters_asked) (defBody s_letters_asked) (defScope s_letters_asked) .none kV_letters_asked dc_letters_asked pm_letters_asked an_letters_asked cd_letters_asked ct_letters_asked), sl_letters_asked⟩) (c_letters_asked : PySem.W.codeIn K cd_letters_asked "letters_asked" = true) (k_letters_asked : PySem.W.keepIn K (.ref f_letters_asked) = true)
    (a_first_of : PySem.W.nsIn K mainGlobals "first_of" = some (some (.ref f_first_of))) (l_first_of : K.lookup f_first_of = some ⟨oc_first_of, od_first_of, .func (PySem.W.fnOf "first_of" "first_of" (defArgs s_first_of) (defBody s_first_of) (defScope s_first_of) .none kV_first_of dc_first_of pm_first_of an_first_of cd_first_of ct_first_of), sl_first_of⟩) (c_first_of : PySem.W.codeIn K cd_first_of "first_of" = true) (k_first_of : PySem.W.keepIn K (.ref f_first_of) = true)
    (a_keeps_overlap_free : PySem.W.nsIn K mainGlobals "keeps_overlap_free" = some (some (.ref f_keeps_overlap_free))) (l_keeps_overlap_free : K.lookup f_keeps_overlap_free = some ⟨oc_keeps_overlap_free, od_keeps_overlap_free, .func (PySem.W.fnOf "keeps_overlap_free" "keeps_overlap_free" (defArgs s_keeps_overlap_free) (defBody s_keeps_overlap_free) (defScope s_keeps_overlap_free) .none kV_keeps_overlap_free dc_keeps_overlap_free pm_keeps_overlap_free an_keeps_overlap_free cd_keeps_overlap_free ct_keeps_overlap_free), sl_keeps_overlap_free⟩) (c_keeps_overlap_free : PySem.W.codeIn K cd_keeps_overlap_free "keeps_overlap_free" = true) (k_keeps_overlap_free : PySem.W.keepIn K (.ref f_keeps_overlap_free) = true)
    (a_first_at : PySem.W.nsIn K mainGlobals "first_at" = some (some (.ref f_first_at))) (l_first_at : K.lookup f_first_at = some ⟨oc_first_at, od_first_at, .func (PySem.W.fnOf "first_at" "first_at" (defArgs s_first_at) (defBody s_first_at) (defScope s_first_at) .none kV_first_at dc_first_at pm_first_at an_first_at cd_first_at ct_first_at), sl_first_at⟩) (c_first_at : PySem.W.codeIn K cd_first_at "first_at" = true) (k_first_at : PySem.W.keepIn K (.ref f_first_at) = true)
    (a_overlap_paper : PySem.W.nsIn K mainGlobals "overlap_paper" = some (some (.ref f_overlap_paper))) (l_overlap_paper : K.lookup f_overlap_paper = some ⟨oc_overlap_paper, od_overlap_paper, .func (PySem.W.fnOf "overlap_paper" "overlap_paper" (defArgs s_overlap_paper) (defBody s_overlap_paper) (defScope s_overlap_paper) .none kV_overlap_paper dc_overlap_paper pm_overlap_paper an_overlap_paper cd_overlap_paper ct_overlap_paper), sl_overlap_paper⟩) (c_overlap_paper : PySem.W.codeIn K cd_overlap_paper "overlap_paper" = true) (k_overlap_paper : PySem.W.keepIn K (.ref f_overlap_paper) = true)
    (a__law_one_right : PySem.W.nsIn K mainGlobals "_law_one_right" = some (some (.ref f__law_one_right))) (l__law_one_right : K.lookup f__law_one_right = some ⟨oc__law_one_right, od__law_one_right, .func (PySem.W.fnOf "_law_one_right" "_law_one_right" (defArgs s__law_one_right) (defBody s__law_one_right) (defScope s__law_one_right) .none kV__law_one_right dc__law_one_right pm__law_one_right an__law_one_right cd__law_one_right ct__law_one_right), sl__law_one_right⟩) (c__law_one_right : PySem.W.codeIn K cd__law_one_right "_law_one_right" = true) (k__law_one_right : PySem.W.keepIn K (.ref f__law_one_right) = true)
    (a__law_pick : PySem.W.nsIn K mainGlobals "_law_pick" = some (some (.ref f__law_pick))) (l__law_pick : K.lookup f__law_pick = some ⟨oc__law_pick, od__law_pick, .func (PySem.W.fnOf "_law_pick" "_law_pick" (defArgs s__law_pick) (defBody s__law_pick) (defScope s__law_pick) .none kV__law_pick dc__law_pick pm__law_pick an__law_pick cd__law_pick ct__law_pick), sl__law_pick⟩) (c__law_pick : PySem.W.codeIn K cd__law_pick "_law_pick" = true) (k__law_pick : PySem.W.keepIn K (.ref f__law_pick) = true)
    (a__law_word : PySem.W.nsIn K mainGlobals "_law_word" = some (some (.ref f__law_word))) (l__law_word : K.lookup f__law_word = some ⟨oc__law_word, od__law_word, .func (PySem.W.fnOf "_law_word" "_law_word" (defArgs s__law_word) (defBody s__law_word) (defScope s__law_word) .none kV__law_word dc__law_word pm__law_word an__law_word cd__law_word ct__law_word), sl__law_word⟩) (c__law_word : PySem.W.codeIn K cd__law_word "_law_word" = true) (k__law_word : PySem.W.keepIn K (.ref f__law_word) = true)
    (a__law_images : PySem.W.nsIn K mainGlobals "_law_images" = some (some (.ref f__law_images))) (l__law_images : K.lookup f__law_images = some ⟨oc__law_images, od__law_images, .func (PySem.W.fnOf "_law_images" "_law_images" (defArgs s__law_images) (defBody s__law_images) (defScope s__law_images) .none kV__law_images dc__law_images pm__law_images an__law_images cd__law_images ct__law_images), sl__law_images⟩) (c__law_images : PySem.W.codeIn K cd__law_images "_law_images" = true) (k__law_images : PySem.W.keepIn K (.ref f__law_images) = true)
    (a__law_pot : PySem.W.nsIn K mainGlobals "_law_pot" = some (some (.ref f__law_pot))) (l__law_pot : K.lookup f__law_pot = some ⟨oc__law_pot, od__law_pot, .func (PySem.W.fnOf "_law_pot" "_law_pot" (defArgs s__law_pot) (defBody s__law_pot) (defScope s__law_pot) .none kV__law_pot dc__law_pot pm__law_pot an__law_pot cd__law_pot ct__law_pot), sl__law_pot⟩) (c__law_pot : PySem.W.codeIn K cd__law_pot "_law_pot" = true) (k__law_pot : PySem.W.keepIn K (.ref f__law_pot) = true)
    (a_law : PySem.W.nsIn K mainGlobals "law" = some (some (.ref f_law))) (l_law : K.lookup f_law = some ⟨oc_law, od_law, .func (PySem.W.fnOf "law" "law" (defArgs s_law) (defBody s_law) (defScope s_law) .none kV_law dc_law pm_law an_law cd_law ct_law), sl_law⟩) (c_law : PySem.W.codeIn K cd_law "law" = true) (k_law : PySem.W.keepIn K (.ref f_law) = true)
    (z_abs : PySem.W.nsIn K mainGlobals "abs" = some none)
    (z_all : PySem.W.nsIn K mainGlobals "all" = some none)
    (z_any : PySem.W.nsIn K mainGlobals "any" = some none)
    (z_bool : PySem.W.nsIn K mainGlobals "bool" = some none)
    (z_divmod : PySem.W.nsIn K mainGlobals "divmod" = some none)
    (z_enumerate : PySem.W.nsIn K mainGlobals "enumerate" = some none)
    (z_int : PySem.W.nsIn K mainGlobals "int" = some none)
    (z_isinstance : PySem.W.nsIn K mainGlobals "isinstance" = some none)
    (z_len : PySem.W.nsIn K mainGlobals "len" = some none)
    (z_list : PySem.W.nsIn K mainGlobals "list" = some none)
    (z_max : PySem.W.nsIn K mainGlobals "max" = some none)
    (z_min : PySem.W.nsIn K mainGlobals "min" = some none)
    (z_range : PySem.W.nsIn K mainGlobals "range" = some none)
    (z_repr : PySem.W.nsIn K mainGlobals "repr" = some none)
    (z_sorted : PySem.W.nsIn K mainGlobals "sorted" = some none)
    (z_str : PySem.W.nsIn K mainGlobals "str" = some none)
    (z_tuple : PySem.W.nsIn K mainGlobals "tuple" = some none)
    (v_ALL : PySem.W.nsIn K mainGlobals "ALL" = some (some (.str "abc" t_ALL)))
    (v_CUBES : PySem.W.nsIn K mainGlobals "CUBES" = some (some (.str "cubes" t_CUBES)))
    (v_MOST_IMAGE : PySem.W.nsIn K mainGlobals "MOST_IMAGE" = some (some (.int 12 t_MOST_IMAGE)))
    (v_OVERLAPS : PySem.W.nsIn K mainGlobals "OVERLAPS" = some (some (.str "overlaps" t_OVERLAPS)))
    (v_SQUARES : PySem.W.nsIn K mainGlobals "SQUARES" = some (some (.str "squares" t_SQUARES)))
    (v_TEST : PySem.W.nsIn K mainGlobals "TEST" = some (some (.str "abbabaab" t_TEST)))
    : ∃ fd : FuncData, (∀ (s : Shared) (v : Value), BindsTo s fd ⟨[v], []⟩ [("script", v)]) ∧ ∀ base : Heap, K.In base → base.Ns mainGlobals mg → FnG P w K mg base 7 fa fd ["script"] (spD K mg 1 g_law) := by
  cases hfa.symm.trans (PySem.W.mg_of X G a_law)
  have M : Mf mg := ⟨PySem.W.mg_none_of X G z_abs, PySem.W.mg_none_of X G z_all, PySem.W.mg_none_of X G z_any, PySem.W.mg_none_of X G z_bool, PySem.W.mg_none_of X G z_divmod, PySem.W.mg_none_of X G z_enumerate, PySem.W.mg_none_of X G z_int, PySem.W.mg_none_of X G z_isinstance, PySem.W.mg_none_of X G z_len, PySem.W.mg_none_of X G z_list, PySem.W.mg_none_of X G z_max, PySem.W.mg_none_of X G z_min, PySem.W.mg_none_of X G z_range, PySem.W.mg_none_of X G z_repr, PySem.W.mg_none_of X G z_sorted, PySem.W.mg_none_of X G z_str, PySem.W.mg_none_of X G z_tuple, ⟨_, PySem.W.mg_of X G v_ALL⟩, ⟨_, PySem.W.mg_of X G v_CUBES⟩, ⟨_, PySem.W.mg_of X G v_MOST_IMAGE⟩, ⟨_, PySem.W.mg_of X G v_OVERLAPS⟩, ⟨_, PySem.W.mg_of X G v_SQUARES⟩, ⟨_, PySem.W.mg_of X G v_TEST⟩⟩
  have F_is_overlap_at := fun_mk (st := s_is_overlap_at) l_is_overlap_at c_is_overlap_at k_is_overlap_at
  have F_image_of := fun_mk (st := s_image_of) l_image_of c_image_of k_image_of
  have F_is_integer := fun_mk (st := s_is_integer) l_is_integer c_is_integer k_is_integer
  have F_is_count := fun_mk (st := s_is_count) l_is_count c_is_count k_is_count
  have F_letters_of := fun_mk (st := s_letters_of) l_letters_of c_letters_of k_letters_of
  have F_over := fun_mk (st := s_over) l_over c_over k_over
  have F_images_are_right := fun_mk (st := s_images_are_right) l_images_are_right c_images_are_right k_images_are_right
  have F_check_images := fun_mk (st := s_check_images) l_check_images c_check_images k_check_images
  have F_check_two := fun_mk (st := s_check_two) l_check_two c_check_two k_check_two
  have F_is_overlap_paper := fun_mk (st := s_is_overlap_paper) l_is_overlap_paper c_is_overlap_paper k_is_overlap_paper
  have F__law_says := fun_mk (st := s__law_says) l__law_says c__law_says k__law_says
  have F__law_draw := fun_mk (st := s__law_draw) l__law_draw c__law_draw k__law_draw
  have F__law_overlap := fun_mk (st := s__law_overlap) l__law_overlap c__law_overlap k__law_overlap
  have F__law_free := fun_mk (st := s__law_free) l__law_free c__law_free k__law_free
  have F__law_image := fun_mk (st := s__law_image) l__law_image c__law_image k__law_image
  have F__law_rows := fun_mk (st := s__law_rows) l__law_rows c__law_rows k__law_rows
  have F_long_stretches := fun_mk (st := s_long_stretches) l_long_stretches c_long_stretches k_long_stretches
  have F_root_round := fun_mk (st := s_root_round) l_root_round c_root_round k_root_round
  have F_runs_of := fun_mk (st := s_runs_of) l_runs_of c_runs_of k_runs_of
  have F_letters_asked := fun_mk (st := s_letters_asked) l_letters_asked c_letters_asked k_letters_asked
  have F_first_of := fun_mk (st := s_first_of) l_first_of c_first_of k_first_of
  have F_keeps_overlap_free := fun_mk (st := s_keeps_overlap_free) l_keeps_overlap_free c_keeps_overlap_free k_keeps_overlap_free
  have F_first_at := fun_mk (st := s_first_at) l_first_at c_first_at k_first_at
  have F_overlap_paper := fun_mk (st := s_overlap_paper) l_overlap_paper c_overlap_paper k_overlap_paper
  have F__law_one_right := fun_mk (st := s__law_one_right) l__law_one_right c__law_one_right k__law_one_right
  have F__law_pick := fun_mk (st := s__law_pick) l__law_pick c__law_pick k__law_pick
  have F__law_word := fun_mk (st := s__law_word) l__law_word c__law_word k__law_word
  have F__law_images := fun_mk (st := s__law_images) l__law_images c__law_images k__law_images
  have F__law_pot := fun_mk (st := s__law_pot) l__law_pot c__law_pot k__law_pot
  have F_law := fun_mk (st := s_law) l_law c_law k_law
  refine ⟨PySem.W.fnOf "law" "law" (defArgs s_law) (defBody s_law) (defScope s_law) .none kV_law dc_law pm_law an_law cd_law ct_law, fun s v => .of_eq rfl, fun base _ _ => ?_⟩
  have O_is_overlap_at := ok_is_overlap_at (P := P) (w := w) (base := base) F_is_overlap_at M  
  have C_is_overlap_at : CalleeG P w K mg base "is_overlap_at" 1 3 g_is_overlap_at := callee_of F_is_overlap_at O_is_overlap_at rfl (PySem.W.mg_of X G a_is_overlap_at) (F_is_overlap_at.binds (ps := ["word", "at", "period"]) fun _ _ _ _ _ _ us hl => match us, hl with | [_, _, _], _ => rfl)
  have O_image_of := ok_image_of (P := P) (w := w) (base := base) F_image_of M  
  have C_image_of : CalleeG P w K mg base "image_of" 1 2 g_image_of := callee_of F_image_of O_image_of rfl (PySem.W.mg_of X G a_image_of) (F_image_of.binds (ps := ["images", "word"]) fun _ _ _ _ _ _ us hl => match us, hl with | [_, _], _ => rfl)
  have O_is_integer := ok_is_integer (P := P) (w := w) (base := base) F_is_integer M  
  have C_is_integer : CalleeG P w K mg base "is_integer" 1 1 g_is_integer := callee_of F_is_integer O_is_integer rfl (PySem.W.mg_of X G a_is_integer) (F_is_integer.binds (ps := ["value"]) fun _ _ _ _ _ _ us hl => match us, hl with | [_], _ => rfl)
  have O_is_count := ok_is_count (P := P) (w := w) (base := base) F_is_count M C_is_integer 
  have C_is_count : CalleeG P w K mg base "is_count" 2 1 g_is_count := callee_of F_is_count O_is_count rfl (PySem.W.mg_of X G a_is_count) (F_is_count.binds (ps := ["value"]) fun _ _ _ _ _ _ us hl => match us, hl with | [_], _ => rfl)
  have O_letters_of := ok_letters_of (P := P) (w := w) (base := base) F_letters_of M  
  have C_letters_of : CalleeG P w K mg base "letters_of" 1 1 g_letters_of := callee_of F_letters_of O_letters_of rfl (PySem.W.mg_of X G a_letters_of) (F_letters_of.binds (ps := ["images"]) fun _ _ _ _ _ _ us hl => match us, hl with | [_], _ => rfl)
  have O_over := ok_over (P := P) (w := w) (base := base) F_over M  
  have C_over : CalleeG P w K mg base "over" 1 2 g_over := callee_of F_over O_over rfl (PySem.W.mg_of X G a_over) (F_over.binds (ps := ["value", "letters"]) fun _ _ _ _ _ _ us hl => match us, hl with | [_, _], _ => rfl)
  have O_images_are_right := ok_images_are_right (P := P) (w := w) (base := base) F_images_are_right M C_over 
  have C_images_are_right : CalleeG P w K mg base "images_are_right" 2 1 g_images_are_right := callee_of F_images_are_right O_images_are_right rfl (PySem.W.mg_of X G a_images_are_right) (F_images_are_right.binds (ps := ["value"]) fun _ _ _ _ _ _ us hl => match us, hl with | [_], _ => rfl)
  have O_check_images := ok_check_images (P := P) (w := w) (base := base) F_check_images M C_images_are_right 
  have C_check_images : CalleeG P w K mg base "check_images" 3 1 g_check_images := callee_of F_check_images O_check_images rfl (PySem.W.mg_of X G a_check_images) (F_check_images.binds (ps := ["images"]) fun _ _ _ _ _ _ us hl => match us, hl with | [_], _ => rfl)
  have O_check_two := ok_check_two (P := P) (w := w) (base := base) F_check_two M C_letters_of C_check_images 
  have C_check_two : CalleeG P w K mg base "check_two" 4 1 g_check_two := callee_of F_check_two O_check_two rfl (PySem.W.mg_of X G a_check_two) (F_check_two.binds (ps := ["images"]) fun _ _ _ _ _ _ us hl => match us, hl with | [_], _ => rfl)
  have O_is_overlap_paper := ok_is_overlap_paper (P := P) (w := w) (base := base) F_is_overlap_paper M C_is_overlap_at C_image_of C_is_count C_check_two 
  have C_is_overlap_paper : CalleeG P w K mg base "is_overlap_paper" 5 2 g_is_overlap_paper := callee_of F_is_overlap_paper O_is_overlap_paper rfl (PySem.W.mg_of X G a_is_overlap_paper) (F_is_overlap_paper.binds (ps := ["images", "value"]) fun _ _ _ _ _ _ us hl => match us, hl with | [_, _], _ => rfl)
  have Kk_is_overlap_paper_value_images : CalleeKG P w K mg base "is_overlap_paper" 5 2 g_is_overlap_paper ["value", "images"] [1, 0] := ⟨_, _, ["images", "value"], rfl, O_is_overlap_paper, PySem.W.mg_of X G a_is_overlap_paper, F_is_overlap_paper.kp, fun ws hl => match ws, hl with | [_, _], _ => rfl⟩
  have O__law_says := ok__law_says (P := P) (w := w) (base := base) F__law_says M  
  have C__law_says : CalleeG P w K mg base "_law_says" 1 2 g__law_says := callee_of F__law_says O__law_says rfl (PySem.W.mg_of X G a__law_says) (F__law_says.binds (ps := ["text", "value"]) fun _ _ _ _ _ _ us hl => match us, hl with | [_, _], _ => rfl)
  have O__law_draw := ok__law_draw (P := P) (w := w) (base := base) F__law_draw M  
  have C__law_draw : CalleeG P w K mg base "_law_draw" 1 2 g__law_draw := callee_of F__law_draw O__law_draw rfl (PySem.W.mg_of X G a__law_draw) (F__law_draw.binds (ps := ["pot", "many"]) fun _ _ _ _ _ _ us hl => match us, hl with | [_, _], _ => rfl)
  have O__law_overlap := ok__law_overlap (P := P) (w := w) (base := base) F__law_overlap M  
  have C__law_overlap : CalleeG P w K mg base "_law_overlap" 1 1 g__law_overlap := callee_of F__law_overlap O__law_overlap rfl (PySem.W.mg_of X G a__law_overlap) (F__law_overlap.binds (ps := ["word"]) fun _ _ _ _ _ _ us hl => match us, hl with | [_], _ => rfl)
  have O__law_free := ok__law_free (P := P) (w := w) (base := base) F__law_free M C__law_overlap 
  have C__law_free : CalleeG P w K mg base "_law_free" 2 1 g__law_free := callee_of F__law_free O__law_free rfl (PySem.W.mg_of X G a__law_free) (F__law_free.binds (ps := ["most"]) fun _ _ _ _ _ _ us hl => match us, hl with | [_], _ => rfl)
  have O__law_image := ok__law_image (P := P) (w := w) (base := base) F__law_image M  
  have C__law_image : CalleeG P w K mg base "_law_image" 1 2 g__law_image := callee_of F__law_image O__law_image rfl (PySem.W.mg_of X G a__law_image) (F__law_image.binds (ps := ["images", "word"]) fun _ _ _ _ _ _ us hl => match us, hl with | [_, _], _ => rfl)
  have O__law_rows := ok__law_rows (P := P) (w := w) (base := base) F__law_rows M  
  have C__law_rows : CalleeG P w K mg base "_law_rows" 1 0 g__law_rows := callee_of F__law_rows O__law_rows rfl (PySem.W.mg_of X G a__law_rows) (F__law_rows.binds (ps := []) fun _ _ _ _ _ _ us hl => match us, hl with | [], _ => rfl)
  have O_long_stretches := ok_long_stretches (P := P) (w := w) (base := base) F_long_stretches M  
  have C_long_stretches : CalleeG P w K mg base "long_stretches" 1 2 g_long_stretches := callee_of F_long_stretches O_long_stretches rfl (PySem.W.mg_of X G a_long_stretches) (F_long_stretches.binds (ps := ["word", "period"]) fun _ _ _ _ _ _ us hl => match us, hl with | [_, _], _ => rfl)
  have O_root_round := ok_root_round (P := P) (w := w) (base := base) F_root_round M  
  have C_root_round : CalleeG P w K mg base "root_round" 1 1 g_root_round := callee_of F_root_round O_root_round rfl (PySem.W.mg_of X G a_root_round) (F_root_round.binds (ps := ["word"]) fun _ _ _ _ _ _ us hl => match us, hl with | [_], _ => rfl)
  have O_runs_of := ok_runs_of (P := P) (w := w) (base := base) F_runs_of M C_long_stretches C_root_round 
  have C_runs_of : CalleeG P w K mg base "runs_of" 2 1 g_runs_of := callee_of F_runs_of O_runs_of rfl (PySem.W.mg_of X G a_runs_of) (F_runs_of.binds (ps := ["word"]) fun _ _ _ _ _ _ us hl => match us, hl with | [_], _ => rfl)
  have O_letters_asked := ok_letters_asked (P := P) (w := w) (base := base) F_letters_asked M  
  have C_letters_asked : CalleeG P w K mg base "letters_asked" 1 2 g_letters_asked := callee_of F_letters_asked O_letters_asked rfl (PySem.W.mg_of X G a_letters_asked) (F_letters_asked.binds (ps := ["kind", "period"]) fun _ _ _ _ _ _ us hl => match us, hl with | [_, _], _ => rfl)
  have O_first_of := ok_first_of (P := P) (w := w) (base := base) F_first_of M C_runs_of C_letters_asked 
  have C_first_of : CalleeG P w K mg base "first_of" 3 2 g_first_of := callee_of F_first_of O_first_of rfl (PySem.W.mg_of X G a_first_of) (F_first_of.binds (ps := ["word", "kind"]) fun _ _ _ _ _ _ us hl => match us, hl with | [_, _], _ => rfl)
  have O_keeps_overlap_free := ok_keeps_overlap_free (P := P) (w := w) (base := base) F_keeps_overlap_free M C_first_of C_image_of C_check_two 
  have C_keeps_overlap_free : CalleeG P w K mg base "keeps_overlap_free" 5 1 g_keeps_overlap_free := callee_of F_keeps_overlap_free O_keeps_overlap_free rfl (PySem.W.mg_of X G a_keeps_overlap_free) (F_keeps_overlap_free.binds (ps := ["images"]) fun _ _ _ _ _ _ us hl => match us, hl with | [_], _ => rfl)
  have Kk_keeps_overlap_free_images : CalleeKG P w K mg base "keeps_overlap_free" 5 1 g_keeps_overlap_free ["images"] [0] := ⟨_, _, ["images"], rfl, O_keeps_overlap_free, PySem.W.mg_of X G a_keeps_overlap_free, F_keeps_overlap_free.kp, fun ws hl => match ws, hl with | [_], _ => rfl⟩
  have O_first_at := ok_first_at (P := P) (w := w) (base := base) F_first_at M C_is_overlap_at 
  have C_first_at : CalleeG P w K mg base "first_at" 2 2 g_first_at := callee_of F_first_at O_first_at rfl (PySem.W.mg_of X G a_first_at) (F_first_at.binds (ps := ["word", "is_at"]) fun _ _ _ _ _ _ us hl => match us, hl with | [_, _], _ => rfl)
  have O_overlap_paper := ok_overlap_paper (P := P) (w := w) (base := base) F_overlap_paper M C_first_at C_is_overlap_at C_image_of C_check_two 
  have C_overlap_paper : CalleeG P w K mg base "overlap_paper" 5 1 g_overlap_paper := callee_of F_overlap_paper O_overlap_paper rfl (PySem.W.mg_of X G a_overlap_paper) (F_overlap_paper.binds (ps := ["images"]) fun _ _ _ _ _ _ us hl => match us, hl with | [_], _ => rfl)
  have O__law_one_right := ok__law_one_right (P := P) (w := w) (base := base) F__law_one_right M C_is_overlap_paper C__law_says C__law_draw C__law_free C__law_overlap C__law_image C__law_rows C_keeps_overlap_free C_overlap_paper Kk_is_overlap_paper_value_images Kk_keeps_overlap_free_images
  have C__law_one_right : CalleeG P w K mg base "_law_one_right" 6 2 g__law_one_right := callee_of F__law_one_right O__law_one_right rfl (PySem.W.mg_of X G a__law_one_right) (F__law_one_right.binds (ps := ["pot", "images"]) fun _ _ _ _ _ _ us hl => match us, hl with | [_, _], _ => rfl)
  have O__law_pick := ok__law_pick (P := P) (w := w) (base := base) F__law_pick M C__law_draw 
  have C__law_pick : CalleeG P w K mg base "_law_pick" 2 2 g__law_pick := callee_of F__law_pick O__law_pick rfl (PySem.W.mg_of X G a__law_pick) (F__law_pick.binds (ps := ["pot", "some"]) fun _ _ _ _ _ _ us hl => match us, hl with | [_, _], _ => rfl)
  have O__law_word := ok__law_word (P := P) (w := w) (base := base) F__law_word M C__law_draw C__law_pick 
  have C__law_word : CalleeG P w K mg base "_law_word" 3 4 g__law_word := callee_of F__law_word O__law_word rfl (PySem.W.mg_of X G a__law_word) (F__law_word.binds (ps := ["pot", "letters", "least", "most"]) fun _ _ _ _ _ _ us hl => match us, hl with | [_, _, _, _], _ => rfl)
  have O__law_images := ok__law_images (P := P) (w := w) (base := base) F__law_images M C__law_word 
  have C__law_images : CalleeG P w K mg base "_law_images" 4 3 g__law_images := callee_of F__law_images O__law_images rfl (PySem.W.mg_of X G a__law_images) (F__law_images.binds (ps := ["pot", "letters", "most"]) fun _ _ _ _ _ _ us hl => match us, hl with | [_, _, _], _ => rfl)
  have O__law_pot := ok__law_pot (P := P) (w := w) (base := base) F__law_pot M  
  have C__law_pot : CalleeG P w K mg base "_law_pot" 1 2 g__law_pot := callee_of F__law_pot O__law_pot rfl (PySem.W.mg_of X G a__law_pot) (F__law_pot.binds (ps := ["script", "k"]) fun _ _ _ _ _ _ us hl => match us, hl with | [_, _], _ => rfl)
  exact ok_law F_law M C__law_one_right C__law_images C__law_draw C__law_pick C__law_rows C__law_pot 
end K87
namespace DL
open PySem PySem.Spec PyProof.Rows L2

/-! ### plain readings: words as lists of signs -/
def Sw (w : List Nat) : Str := ⟨w.toArray⟩
@[simp] theorem Sw_len (w : List Nat) : (Sw w).length = w.length := by simp [Sw, Str.length]
@[simp] theorem Sw_cps (w : List Nat) : (Sw w).cps.toList = w := by simp [Sw]
theorem Sw_add (a b : List Nat) : Sw a ++ Sw b = Sw (a ++ b) := by
  show (⟨a.toArray ++ b.toArray⟩ : Str) = _
  simp [Sw]
theorem Sw_cut (w : List Nat) (lo hi : Option Int) : cutS (Sw w) lo hi = Sw (cutL w lo hi) := by
  unfold cutS cutL
  rw [Sw_cps, Sw_len]; rfl
theorem Sw_of (x : Str) : x = Sw x.cps.toList := by
  obtain ⟨a⟩ := x
  simp [Sw]
theorem Sw_inj {a b : List Nat} (h : Sw a = Sw b) : a = b := by
  have := congrArg (fun x : Str => x.cps.toList) h
  simpa using this
abbrev dw (w : List Nat) : D := .str (Sw w)
theorem sign_dw (c : Nat) : sign c = dw [c] := rfl

/-! ### small facts -/
/-! ### calls of plain functions -/
def Gv (g : FD) (as : List D) (r : EV) : Prop := ∃ os, g (as.map fun d => some (.sh d)) = .ok r os
theorem gv_args : ∀ (as : List D) (ρ : Env), svsOf (as.map EV.sh) ρ = some (as.map SV.sh)
  | [], ρ => rfl
  | a :: as, ρ => by simp [svsOf, svOf, gv_args as ρ]
theorem gv_apart : ∀ as : List D, apartB (as.map EV.sh) = true
  | [] => rfl
  | a :: as => by simp [apartB, gv_apart as]
theorem gv_look : ∀ (as : List D) (j : Nat) (os : Env), lookB j (as.map EV.sh) os = none
  | [], j, os => by simp [lookB]
  | a :: as, j, [] => by simp [lookB]
  | a :: as, j, o :: os => by simp [lookB, gv_look as j os]
theorem gv_back (as : List D) (os ρ : Env) : putBack (as.map EV.sh) os ρ = ρ := by
  unfold putBack
  apply List.ext_getElem?
  intro i
  rw [List.getElem?_mapIdx]
  cases h : ρ[i]? with
  | none => rfl
  | some o =>
    cases o with
    | none => rfl
    | some sv =>
      cases sv with
      | ow b ds => simp [backAt, gv_look]
      | _ => rfl
theorem gv_call {g : FD} {as : List D} {r : EV} (h : Gv g as r) (hb : ∀ i, r ≠ .bo i) (ρ : Env) : dCallN as.length g (as.map EV.sh) ρ = .ok r ρ := by
  obtain ⟨os, h⟩ := h
  unfold dCallN dCall
  rw [if_pos (by simp), if_pos (gv_apart as), gv_args]
  simp only [List.map_map]
  have e : g (as.map (some ∘ SV.sh)) = .ok r os := h
  rw [e]
  cases r with
  | bo i => exact (hb i rfl).elim
  | _ => simp only [gv_back]
theorem call1 {g : FD} {a : D} {r : EV} (h : Gv g [a] r) (ρ : Env) (hb : ∀ i, r ≠ .bo i := by intro _ h; cases h) : dCallN 1 g [.sh a] ρ = .ok r ρ := gv_call h hb ρ
theorem call2 {g : FD} {a b : D} {r : EV} (h : Gv g [a, b] r) (ρ : Env) (hb : ∀ i, r ≠ .bo i := by intro _ h; cases h) : dCallN 2 g [.sh a, .sh b] ρ = .ok r ρ := gv_call h hb ρ
theorem call3 {g : FD} {a b c : D} {r : EV} (h : Gv g [a, b, c] r) (ρ : Env) (hb : ∀ i, r ≠ .bo i := by intro _ h; cases h) : dCallN 3 g [.sh a, .sh b, .sh c] ρ = .ok r ρ := gv_call h hb ρ
/-- what a body gives -/
theorem gv_of {n : Nat} {b : Env → Out Fl} {as : List D} {r : EV} (h : ∃ ρ, b ((as.map fun d => some (.sh d)) ++ List.replicate (n - as.length) none) = .ok (.rt r) ρ) (hb : ∀ i, r ≠ .bo i := by intro _ h; cases h) : Gv (fnBody n b) as r := by
  obtain ⟨ρ, h⟩ := h
  unfold Gv fnBody
  rw [List.length_map, h]
  cases r with
  | bo i => exact (hb i rfl).elim
  | _ => exact ⟨_, rfl⟩
/-! ### comprehensions whose parts leave the env -/
theorem unwipe_same {ρ ρf : Env} {vs : List Nat} (h : wipeE ρf vs = wipeE ρ vs) : unwipe ρ ρf vs = ρ := by
  have hl : ρf.length = ρ.length := by rw [← wipeE_len (ρ := ρf) (vs := vs), h, wipeE_len]
  apply List.ext_getElem?
  intro i
  have hi := congrArg (fun z : Env => z[i]?) h
  simp only [wipeE, List.getElem?_mapIdx] at hi
  unfold unwipe
  rw [List.getElem?_mapIdx]
  by_cases hv : vs.contains i = true
  · cases q : ρf[i]? with
    | none =>
      have : ρ[i]? = none := by rw [List.getElem?_eq_none_iff] at q ⊢; omega
      simp [this]
    | some o =>
      have hlt : i < ρ.length := by have := (List.getElem?_eq_some_iff.mp q).1; omega
      simp only [Option.map_some, if_pos hv]
      rw [List.getD_eq_getElem?_getD, List.getElem?_eq_getElem hlt]; rfl
  · simp only [if_neg hv] at hi ⊢
    simpa using hi
theorem lcL_plain {ok : Env → Bool} {g : D → Env → Option Env} {tt : Env → Out Bool} {fe : Env → Out EV} {vs : List Nat} {ρ0 : Env} {p : D → Bool} {h : D → D} (hok : ok ρ0 = true) : ∀ (ds : List D) (acc : List D) (ρ : Env), wipeE ρ vs = ρ0 →
    (∀ d ∈ ds, ∃ ρa, g d ρ0 = some ρa ∧ wipeE ρa vs = ρ0 ∧ tt ρa = .ok (p d) ρa ∧ (p d = true → (fe ρa).bind frz = .ok (h d) ρa)) → ∃ ρf, wipeE ρf vs = ρ0 ∧ lcL ok g tt fe vs ds acc ρ = .ok (acc ++ (ds.filter p).map h) ρf
  | [], acc, ρ, e, _ => ⟨ρ, e, by simp [lcL, e, hok]⟩
  | d :: ds, acc, ρ, e, hd => by
    obtain ⟨ρa, h1, h2, h3, h4⟩ := hd d (by simp)
    unfold lcL
    rw [e, if_pos hok, h1]
    simp only [h3, noX_ok, Out.bind_ok]
    cases hp : p d with
    | true =>
      rw [if_pos rfl, h4 hp]
      simp only [noX_ok, Out.bind_ok]
      obtain ⟨ρf, q1, q2⟩ := lcL_plain hok ds (acc ++ [h d]) ρa h2 fun x hx => hd x (by simp [hx])
      exact ⟨ρf, q1, by rw [q2]; simp [hp]⟩
    | false =>
      rw [if_neg Bool.false_ne_true]
      obtain ⟨ρf, q1, q2⟩ := lcL_plain hok ds acc ρa h2 fun x hx => hd x (by simp [hx])
      exact ⟨ρf, q1, by rw [q2]; simp [hp]⟩
theorem fLc_plain {fi : Env → Out Its} {g : D → Env → Option Env} {tt : Env → Out Bool} {fe : Env → Out EV} {vs : List Nat} {ρ : Env} {ds : List D} (p : D → Bool) (h : D → D) (hi : fi ρ = .ok ⟨ds, none⟩ ρ) (hn : noOwn ρ vs = true) (hl : ds.length ≤ sizeLine)
    (hd : ∀ d ∈ ds, ∃ ρa, g d (wipeE ρ vs) = some ρa ∧ wipeE ρa vs = wipeE ρ vs ∧ tt ρa = .ok (p d) ρa ∧ (p d = true → (fe ρa).bind frz = .ok (h d) ρa)) : fLc fi g tt fe vs ρ = .ok (.fr ((ds.filter p).map h)) ρ := by
  unfold fLc
  rw [hi]
  simp only [Out.bind_ok]
  unfold lcGo
  rw [if_pos (show noOwn ((Its.mk ds none).grab ρ) vs = true ∧ (Its.mk ds none).ds.length ≤ sizeLine from ⟨hn, hl⟩)]
  show (lcL (Its.mk ds none).ok g tt fe vs ds [] ρ).bind (fun acc ρ2 => Out.ok (EV.fr acc) ((Its.mk ds none).free (unwipe ρ ρ2 vs))) = _
  obtain ⟨ρf, q1, q2⟩ := lcL_plain (ok := (Its.mk ds none).ok) (vs := vs) (p := p) (h := h) rfl ds [] ρ rfl hd
  rw [q2]
  simp only [Out.bind_ok, Its.free, List.nil_append]
  rw [unwipe_same q1]
theorem fLc_map {fi : Env → Out Its} {g : D → Env → Option Env} {fe : Env → Out EV} {vs : List Nat} {ρ : Env} {ds : List D} (h : D → D) (hi : fi ρ = .ok ⟨ds, none⟩ ρ) (hn : noOwn ρ vs = true) (hl : ds.length ≤ sizeLine)
    (hd : ∀ d ∈ ds, ∃ ρa, g d (wipeE ρ vs) = some ρa ∧ wipeE ρa vs = wipeE ρ vs ∧ (fe ρa).bind frz = .ok (h d) ρa) : fLc fi g fYes fe vs ρ = .ok (.fr (ds.map h)) ρ := by
  have := fLc_plain (tt := fYes) (fun _ => true) h hi hn hl fun d hd' => by
    obtain ⟨ρa, h1, h2, h3⟩ := hd d hd'
    exact ⟨ρa, h1, h2, rfl, fun _ => h3⟩
  rwa [List.filter_eq_self.mpr (by simp)] at this
end DL
namespace DL
open PySem PySem.Spec PyProof.Rows L2

/-! ### evaluation by rewriting -/
@[simp] theorem argv_sh (d : D) : argv (.sh d) = .sh d := rfl
@[simp] theorem argv_fr (d : List D) : argv (.fr d) = .sh (.list d) := rfl
@[simp] theorem argv_bo (i : Nat) : argv (.bo i) = .bo i := rfl
@[simp] theorem argv_sc (i : List Int) : argv (.sc i) = .sc i := rfl
@[simp] theorem argv_fn (i : Str) : argv (.fn i) = .fn i := rfl
@[simp] theorem frz_sh (d : D) (ρ : Env) : frz (.sh d) ρ = .ok d ρ := rfl
@[simp] theorem frz_fr (d : List D) (ρ : Env) : frz (.fr d) ρ = .ok (.list d) ρ := rfl
@[simp] theorem rd_sh (d : D) (ρ : Env) : rd (.sh d) ρ = some d := rfl
@[simp] theorem rd_fr (d : List D) (ρ : Env) : rd (.fr d) ρ = some (.list d) := rfl
@[simp] theorem rdS_sh (d : D) (ρ : Env) : rdS (.sh d) ρ = some d := rfl
@[simp] theorem rdS_fr (d : List D) (ρ : Env) : rdS (.fr d) ρ = some (.list d) := rfl
@[simp] theorem rdS_sc (d : List Int) (ρ : Env) : rdS (.sc d) ρ = some (.list (d.map .int)) := rfl
@[simp] theorem rdS_bo (i : Nat) (ρ : Env) : rdS (.bo i) ρ = rd (.bo i) ρ := rfl
@[simp] theorem rd2_sh (op : D → D → Env → Out EV) (a b : D) (ρ : Env) : rd2 op (.sh a) (.sh b) ρ = op a b ρ := rfl
@[simp] theorem rdI_sh (a b : D) (ρ : Env) : rdI (.sh a) (.sh b) ρ = opIx a b ρ := rfl
@[simp] theorem rdSs_nil (ρ : Env) : rdSs [] ρ = some [] := rfl
theorem atI_zero {α : Type} (x : α) (xs : List α) : atI (x :: xs) 0 = some x := atI_nat (j := 0) rfl
theorem atI_one {α : Type} (x y : α) (xs : List α) : atI (x :: y :: xs) 1 = some y := atI_nat (j := 1) rfl
theorem atI_two {α : Type} (x y z : α) (xs : List α) : atI (x :: y :: z :: xs) 2 = some z := atI_nat (j := 2) rfl
theorem atI_n {α : Type} {xs : List α} {n : Nat} (h : n < xs.length) : atI xs (n : Int) = some xs[n] := atI_nat (List.getElem?_eq_getElem h)
/-- what a body's end hands out -/
def rtOf : Out Fl → Option EV
  | .ok (.rt v) _ => some v
  | .ok .nx _ => some (.sh .none)
  | _ => none
@[simp] theorem rtOf_rt (v : EV) (ρ : Env) : rtOf (.ok (.rt v) ρ) = some v := rfl
@[simp] theorem rtOf_nx (ρ : Env) : rtOf (.ok .nx ρ) = some (.sh .none) := rfl
theorem gv_rt {n : Nat} {b : Env → Out Fl} {as : List D} {r : EV} (h : rtOf (b ((as.map fun d => some (.sh d)) ++ List.replicate (n - as.length) none)) = some r) (hb : ∀ i, r ≠ .bo i := by intro _ h; cases h) : Gv (fnBody n b) as r := by
  unfold Gv fnBody
  rw [List.length_map]
  cases q : b ((as.map fun d => some (.sh d)) ++ List.replicate (n - as.length) none) with
  | ok fl ρ =>
    rw [q] at h
    cases fl with
    | nx => cases h; exact ⟨_, rfl⟩
    | bk => cases h
    | ct => cases h
    | rt v =>
      cases h
      cases r with
      | bo i => exact (hb i rfl).elim
      | _ => exact ⟨_, rfl⟩
  | exc c fs ρ => rw [q] at h; cases h
  | stuck => rw [q] at h; cases h
end DL
namespace DL
open PySem PySem.Spec PyProof.Rows L2

/-! ### and, or, not by cases; results that hang on a test -/
def andV (v : EV) (g : Env → Out EV) (ρ : Env) : Out EV := match v with
  | .sh (.bool true) => g ρ
  | .sh (.bool false) => .ok (.sh (.bool false)) ρ
  | _ => .stuck
theorem vAnd_eq (f g : Env → Out EV) (ρ : Env) : vAnd f g ρ = (f ρ).bind fun v ρ1 => andV v g ρ1 := rfl
theorem andV_bool (c : Bool) (g : Env → Out EV) (ρ : Env) : andV (.sh (.bool c)) g ρ = if c = true then g ρ else .ok (.sh (.bool false)) ρ := by cases c <;> rfl
def orV (v : EV) (g : Env → Out EV) (ρ : Env) : Out EV := match v with
  | .sh (.bool true) => .ok (.sh (.bool true)) ρ
  | .sh (.bool false) => g ρ
  | _ => .stuck
theorem vOr_eq (f g : Env → Out EV) (ρ : Env) : vOr f g ρ = (f ρ).bind fun v ρ1 => orV v g ρ1 := rfl
theorem orV_bool (c : Bool) (g : Env → Out EV) (ρ : Env) : orV (.sh (.bool c)) g ρ = if c = true then .ok (.sh (.bool true)) ρ else g ρ := by cases c <;> rfl
theorem fChain_eq (op op' : D → D → Env → Out EV) (fa fb fc : Env → Out EV) (ρ : Env) : fChain op op' fa fb fc ρ = (fa ρ).bind fun va ρ1 => (fb ρ1).bind fun vb ρ2 => (rd2 op va vb ρ2).bind fun vk ρ3 => andV vk (fun ρ3 => (fc ρ3).bind fun vc ρ4 => rd2 op' vb vc ρ4) ρ3 := rfl
theorem bind_ite {α β : Type} (c : Prop) [Decidable c] (a b : Out α) (k : α → Env → Out β) : (if c then a else b).bind k = if c then a.bind k else b.bind k := by split <;> rfl
theorem seq_ite (c : Prop) [Decidable c] (a b : Out Fl) (k : Env → Out Fl) : (if c then a else b).seq k = if c then a.seq k else b.seq k := by split <;> rfl
theorem turn_ite (c : Prop) [Decidable c] (a b : Out Fl) (k : Env → Out Fl) : (if c then a else b).turn k = if c then a.turn k else b.turn k := by split <;> rfl
theorem rtOf_ite (c : Prop) [Decidable c] (a b : Out Fl) : rtOf (if c then a else b) = if c then rtOf a else rtOf b := by split <;> rfl
theorem ite_bool (c : Bool) {α : Type} (a b : α) : (if c = true then a else b) = cond c a b := by cases c <;> rfl
/-! ### operators on plain values -/
theorem opMul_l {i j : Int} {ρ : Env} (h1 : -18446744073709551616 < i) (h2 : i < 18446744073709551616) : opMul (.int i) (.int j) ρ = .ok (.sh (.int (i * j))) ρ := by
  simp only [opMul]; rw [if_pos (.inl (smI_mk (by omega) (by omega)))]
theorem opMul_r {i j : Int} {ρ : Env} (h1 : -18446744073709551616 < j) (h2 : j < 18446744073709551616) : opMul (.int i) (.int j) ρ = .ok (.sh (.int (i * j))) ρ := by
  simp only [opMul]; rw [if_pos (.inr (smI_mk (by omega) (by omega)))]
theorem opFdiv_p {i j : Int} {ρ : Env} (h1 : 0 < j) (h2 : j < 1073741824) : opFdiv (.int i) (.int j) ρ = .ok (.sh (.int (i / j))) ρ := by
  simp only [opFdiv]; rw [if_pos ⟨h1, smI_mk (by omega) (by omega)⟩]
theorem opMod_p {i j : Int} {ρ : Env} (h1 : 0 < j) : opMod (.int i) (.int j) ρ = .ok (.sh (.int (i % j))) ρ := by
  simp only [opMod]; rw [if_pos h1]
theorem opEq_int {i j : Int} {ρ : Env} : opEq (.int i) (.int j) ρ = .ok (.sh (.bool (decide (i = j)))) ρ := by
  unfold opEq; rw [if_pos (by simp [PyData.depth])]; simp [PyData.eqv]; rfl
theorem opNe_int {i j : Int} {ρ : Env} : opNe (.int i) (.int j) ρ = .ok (.sh (.bool (!decide (i = j)))) ρ := by
  unfold opNe; rw [if_pos (by simp [PyData.depth])]; simp [PyData.eqv]; rfl
theorem eqv_dw {a b : List Nat} : PyData.eqv (dw a) (dw b) = decide (a = b) := by
  simp only [PyData.eqv]
  by_cases h : a = b
  · subst h; simp
  · have : Sw a ≠ Sw b := fun z => h (Sw_inj z)
    simp [h, this]
theorem opEq_str {a b : List Nat} {ρ : Env} : opEq (dw a) (dw b) ρ = .ok (.sh (.bool (decide (a = b)))) ρ := by
  unfold opEq; rw [if_pos (by simp [PyData.depth]), eqv_dw]
theorem opNe_str {a b : List Nat} {ρ : Env} : opNe (dw a) (dw b) ρ = .ok (.sh (.bool (!decide (a = b)))) ρ := by
  unfold opNe; rw [if_pos (by simp [PyData.depth]), eqv_dw]
theorem cmp_int {i j : Int} : cmpOk (.int i) (.int j) = true := by
  simp [cmpOk, PySem.W.alike, isN, PyData.depth]
theorem lt_int {i j : Int} : PySem.W.dataLt (.int i) (.int j) = decide (i < j) := PySem.W.dataLt_int i j
theorem opLt_int {i j : Int} {ρ : Env} : opLt (.int i) (.int j) ρ = .ok (.sh (.bool (decide (i < j)))) ρ := by
  unfold opLt; rw [if_pos cmp_int, lt_int]
theorem opGt_int {i j : Int} {ρ : Env} : opGt (.int i) (.int j) ρ = .ok (.sh (.bool (decide (j < i)))) ρ := by
  unfold opGt; rw [if_pos cmp_int, lt_int]
theorem opLe_int {i j : Int} {ρ : Env} : opLe (.int i) (.int j) ρ = .ok (.sh (.bool (decide (i ≤ j)))) ρ := by
  unfold opLe; rw [if_pos cmp_int, lt_int]; congr 3
  by_cases h : j < i <;> simp [h] <;> omega
theorem opGe_int {i j : Int} {ρ : Env} : opGe (.int i) (.int j) ρ = .ok (.sh (.bool (decide (j ≤ i)))) ρ := by
  unfold opGe; rw [if_pos cmp_int, lt_int]; congr 3
  by_cases h : i < j <;> simp [h] <;> omega
theorem opIn_sign {b : Bool} {c : Nat} {w : List Nat} {ρ : Env} : opIn b (dw [c]) (dw w) ρ = .ok (.sh (.bool (b != decide (c ∈ w)))) ρ := by
  have e : strIn (Sw [c]) (Sw w) = decide (c ∈ w) := (StrLaws.found_one (Sw w) c).trans (by rw [Sw_cps])
  show Out.ok (EV.sh (.bool (b != strIn (Sw [c]) (Sw w)))) ρ = _
  rw [e]
theorem rdSs_nil' (ρ : Env) : rdSs [] ρ = some [] := rfl
theorem rdSs_sh (d : D) (vs : List EV) (ρ : Env) : rdSs (.sh d :: vs) ρ = (rdSs vs ρ).map (d :: ·) := by
  simp only [rdSs, rdS_sh]
  cases rdSs vs ρ <;> rfl
theorem rdSs_sc (ns : List Int) (vs : List EV) (ρ : Env) : rdSs (.sc ns :: vs) ρ = (rdSs vs ρ).map (.list (ns.map .int) :: ·) := by
  simp only [rdSs, rdS_sc]
  cases rdSs vs ρ <;> rfl
def opS (op : D → List D → Env → Out EV) (d : D) (ds : Option (List D)) (ρ : Env) : Out EV := match ds with
  | some ds => op d ds ρ
  | none => .stuck
theorem opS_some (op : D → List D → Env → Out EV) (d : D) (ds : List D) (ρ : Env) : opS op d (some ds) ρ = op d ds ρ := rfl
def mtS (op : D → List D → Env → Out EV) (fa : Env → Out (List EV)) (v : EV) (ρ : Env) : Out EV := if isTy "str" v ρ = true then (fa ρ).bind fun vs ρ2 => rdM "str" op v vs ρ2 else .stuck
theorem fMt_eq (op : D → List D → Env → Out EV) (fo : Env → Out EV) (fa : Env → Out (List EV)) (ρ : Env) : fMt "str" op fo fa ρ = (fo ρ).bind (mtS op fa) := rfl
theorem mtS_str (op : D → List D → Env → Out EV) (fa : Env → Out (List EV)) (x : Str) (ρ : Env) : mtS op fa (.sh (.str x)) ρ = (fa ρ).bind fun vs ρ2 => opS op (.str x) (rdSs vs ρ2) ρ2 := by
  unfold mtS
  rw [if_pos (show isTy "str" (.sh (.str x)) ρ = true from rfl)]
  congr 1
  funext vs ρ2
  unfold rdM opS
  simp only [rdS_sh]
  cases rdSs vs ρ2 <;> rfl
def mtS0 (op : D → List D → Env → Out EV) (v : EV) (ρ : Env) : Out EV := if isTy "str" v ρ = true then rdM "str" op v [] ρ else .stuck
theorem fMt0_eq (op : D → List D → Env → Out EV) (fo : Env → Out EV) (ρ : Env) : fMt0 "str" op fo ρ = (fo ρ).bind (mtS0 op) := rfl
theorem mtS0_str (op : D → List D → Env → Out EV) (x : Str) (ρ : Env) : mtS0 op (.sh (.str x)) ρ = op (.str x) [] ρ := rfl
theorem rdC_eq (op : List D → Env → Out EV) (vs : List EV) (ρ : Env) : rdC op vs ρ = (match rdSs vs ρ with | some ds => op ds ρ | none => .stuck) := rfl
/-! joins -/
theorem strsOf_dw (ws : List (List Nat)) : strsOf (ws.map dw) = some (ws.map Sw) := by
  induction ws with
  | nil => rfl
  | cons w ws ih => simp only [List.map_cons, strsOf, ih, Option.map_some]
theorem join_dw : ∀ ws : List (List Nat), Txt.join (Sw []) (ws.map Sw) = Sw ws.flatten := fun ws => by
  rw [join_eq]
  induction ws with
  | nil => rfl
  | cons w ws ih =>
    cases ws with
    | nil => simp [Str.join]
    | cons v vs =>
      have e : Str.join (Sw []) ((w :: v :: vs).map Sw) = Sw w ++ Sw [] ++ Str.join (Sw []) ((v :: vs).map Sw) := rfl
      rw [e, ih, Sw_add, Sw_add]
      simp
theorem opJoin_dw (ws : List (List Nat)) (ρ : Env) (h : ws.flatten.length ≤ 16777216) : opJoin (dw []) [.list (ws.map dw)] ρ = .ok (.sh (dw ws.flatten)) ρ := by
  have hs : ((ws.map Sw).map (·.length)).sum = ws.flatten.length := by
    rw [List.map_map, List.length_flatten]; congr 1
  simp only [opJoin, strsOf_dw, Sw_len]
  rw [if_pos (by rw [hs, List.length_nil, Nat.mul_zero]; omega), join_dw]
theorem dw_map (w : List Nat) : w.map sign = (w.map fun c => [c]).map dw := by rw [List.map_map]; rfl
/-! ### isinstance -/
theorem isi_int_none : isiB "int" .none = false := rfl
theorem isi_int_bool (b : Bool) : isiB "int" (.bool b) = true := rfl
theorem isi_int_int (i : Int) : isiB "int" (.int i) = true := rfl
theorem isi_int_str (x : Str) : isiB "int" (.str x) = false := rfl
theorem isi_int_list (ds : List D) : isiB "int" (.list ds) = false := rfl
theorem isi_int_tuple (ds : List D) : isiB "int" (.tuple ds) = false := rfl
theorem isi_bool_none : isiB "bool" .none = false := rfl
theorem isi_bool_bool (b : Bool) : isiB "bool" (.bool b) = true := rfl
theorem isi_bool_int (i : Int) : isiB "bool" (.int i) = false := rfl
theorem isi_bool_str (x : Str) : isiB "bool" (.str x) = false := rfl
theorem isi_bool_list (ds : List D) : isiB "bool" (.list ds) = false := rfl
theorem isi_bool_tuple (ds : List D) : isiB "bool" (.tuple ds) = false := rfl
theorem isi_str_none : isiB "str" .none = false := rfl
theorem isi_str_bool (b : Bool) : isiB "str" (.bool b) = false := rfl
theorem isi_str_int (i : Int) : isiB "str" (.int i) = false := rfl
theorem isi_str_str (x : Str) : isiB "str" (.str x) = true := rfl
theorem isi_str_list (ds : List D) : isiB "str" (.list ds) = false := rfl
theorem isi_str_tuple (ds : List D) : isiB "str" (.tuple ds) = false := rfl
theorem isi_list_none : isiB "list" .none = false := rfl
theorem isi_list_bool (b : Bool) : isiB "list" (.bool b) = false := rfl
theorem isi_list_int (i : Int) : isiB "list" (.int i) = false := rfl
theorem isi_list_str (x : Str) : isiB "list" (.str x) = false := rfl
theorem isi_list_list (ds : List D) : isiB "list" (.list ds) = true := rfl
theorem isi_list_tuple (ds : List D) : isiB "list" (.tuple ds) = false := rfl
theorem isi_tuple_none : isiB "tuple" .none = false := rfl
theorem isi_tuple_bool (b : Bool) : isiB "tuple" (.bool b) = false := rfl
theorem isi_tuple_int (i : Int) : isiB "tuple" (.int i) = false := rfl
theorem isi_tuple_str (x : Str) : isiB "tuple" (.str x) = false := rfl
theorem isi_tuple_list (ds : List D) : isiB "tuple" (.list ds) = false := rfl
theorem isi_tuple_tuple (ds : List D) : isiB "tuple" (.tuple ds) = true := rfl
end DL
namespace DL
open PySem PySem.Spec PyProof.Rows L2

/-! ### loops -/
theorem forL_fold {ok : Env → Bool} {g : D → Env → Option Env} {fb : Env → Out Fl} {S : Type} (R : S → Env → Prop) (step : S → D → S) (hok : ∀ s ρ, R s ρ → ok ρ = true) : ∀ (ds : List D) (s : S) (ρ : Env), R s ρ →
    (∀ d ∈ ds, ∀ s ρ, R s ρ → ∃ ρ1 ρ2, g d ρ = some ρ1 ∧ (fb ρ1 = .ok .nx ρ2 ∨ fb ρ1 = .ok .ct ρ2) ∧ R (step s d) ρ2) → ∃ ρ', forL ok g fb ds ρ = .ok .nx ρ' ∧ R (ds.foldl step s) ρ'
  | [], s, ρ, h, _ => ⟨ρ, by simp [forL, hok s ρ h], h⟩
  | d :: ds, s, ρ, h, hd => by
    obtain ⟨ρ1, ρ2, h1, h2, h3⟩ := hd d (by simp) s ρ h
    obtain ⟨ρ', h4, h5⟩ := forL_fold R step hok ds (step s d) ρ2 h3 fun x hx => hd x (by simp [hx])
    refine ⟨ρ', ?_, h5⟩
    unfold forL
    rw [if_pos (hok s ρ h), h1]
    rcases h2 with h2 | h2 <;> (simp only [h2, Out.turn_nx, Out.turn_ct]; exact h4)
theorem forL_find {ok : Env → Bool} {g : D → Env → Option Env} {fb : Env → Out Fl} (R : Env → Prop) (f : D → Option EV) (hok : ∀ ρ, R ρ → ok ρ = true) : ∀ (ds : List D) (ρ : Env), R ρ →
    (∀ d ∈ ds, ∀ ρ, R ρ → ∃ ρ1, g d ρ = some ρ1 ∧ ((f d = none ∧ ∃ ρ2, (fb ρ1 = .ok .nx ρ2 ∨ fb ρ1 = .ok .ct ρ2) ∧ R ρ2) ∨ ∃ v ρ2, f d = some v ∧ fb ρ1 = .ok (.rt v) ρ2)) →
    (ds.findSome? f = none ∧ ∃ ρ', forL ok g fb ds ρ = .ok .nx ρ' ∧ R ρ') ∨ (∃ v ρ', ds.findSome? f = some v ∧ forL ok g fb ds ρ = .ok (.rt v) ρ')
  | [], ρ, h, _ => .inl ⟨rfl, ρ, by simp [forL, hok ρ h], h⟩
  | d :: ds, ρ, h, hd => by
    obtain ⟨ρ1, h1, h2⟩ := hd d (by simp) ρ h
    rcases h2 with ⟨h2, ρ2, h3, h4⟩ | ⟨v, ρ2, h2, h3⟩
    · rcases forL_find R f hok ds ρ2 h4 fun x hx => hd x (by simp [hx]) with ⟨q1, ρ', q2, q3⟩ | ⟨v, ρ', q1, q2⟩
      · refine .inl ⟨by rw [List.findSome?_cons, h2]; exact q1, ρ', ?_, q3⟩
        unfold forL
        rw [if_pos (hok ρ h), h1]
        rcases h3 with h3 | h3 <;> (simp only [h3, Out.turn_nx, Out.turn_ct]; exact q2)
      · refine .inr ⟨v, ρ', by rw [List.findSome?_cons, h2]; exact q1, ?_⟩
        unfold forL
        rw [if_pos (hok ρ h), h1]
        rcases h3 with h3 | h3 <;> (simp only [h3, Out.turn_nx, Out.turn_ct]; exact q2)
    · refine .inr ⟨v, ρ2, by rw [List.findSome?_cons, h2], ?_⟩
      unfold forL
      rw [if_pos (hok ρ h), h1]
      simp only [h3, Out.turn_rt]
/-- comprehensions with parts that change the env: R of the env that the block leaves -/
theorem lcL_draw {ok : Env → Bool} {g : D → Env → Option Env} {fe : Env → Out EV} {vs : List Nat} (R : Env → Prop) (P : D → D → Prop) (hok : ∀ e, R e → ok e = true) : ∀ (ds acc : List D) (ρ : Env), R (wipeE ρ vs) →
    (∀ d ∈ ds, ∀ e, R e → ∃ ρa y ρc, g d e = some ρa ∧ (fe ρa).bind frz = .ok y ρc ∧ P d y ∧ R (wipeE ρc vs)) → ∃ ys ρf, Paired P ds ys ∧ R (wipeE ρf vs) ∧ lcL ok g fYes fe vs ds acc ρ = .ok (acc ++ ys) ρf
  | [], acc, ρ, h, _ => ⟨[], ρ, .nil, h, by simp [lcL, hok _ h]⟩
  | d :: ds, acc, ρ, h, hd => by
    obtain ⟨ρa, y, ρc, h1, h2, h3, h4⟩ := hd d (by simp) _ h
    obtain ⟨ys, ρf, q1, q2, q3⟩ := lcL_draw R P hok ds (acc ++ [y]) ρc h4 fun x hx => hd x (by simp [hx])
    refine ⟨y :: ys, ρf, .cons h3 q1, q2, ?_⟩
    unfold lcL
    rw [if_pos (hok _ h), h1]
    simp only [fYes, noX_ok, Out.bind_ok, if_true, h2, q3, List.append_assoc, List.cons_append, List.nil_append]
theorem fLc_draw {fi : Env → Out Its} {g : D → Env → Option Env} {fe : Env → Out EV} {vs : List Nat} {ρ ρ1 : Env} {ds : List D} (R : Env → Prop) (P : D → D → Prop) (hi : fi ρ = .ok ⟨ds, none⟩ ρ1) (hn : noOwn ρ1 vs = true) (hl : ds.length ≤ sizeLine) (h0 : R (wipeE ρ1 vs))
    (hd : ∀ d ∈ ds, ∀ e, R e → ∃ ρa y ρc, g d e = some ρa ∧ (fe ρa).bind frz = .ok y ρc ∧ P d y ∧ R (wipeE ρc vs)) : ∃ ys ρf, Paired P ds ys ∧ R (wipeE ρf vs) ∧ fLc fi g fYes fe vs ρ = .ok (.fr ys) (unwipe ρ1 ρf vs) := by
  unfold fLc
  rw [hi]
  simp only [Out.bind_ok]
  unfold lcGo
  rw [if_pos (show noOwn ((Its.mk ds none).grab ρ1) vs = true ∧ (Its.mk ds none).ds.length ≤ sizeLine from ⟨hn, hl⟩)]
  show ∃ ys ρf, _ ∧ _ ∧ (lcL (Its.mk ds none).ok g fYes fe vs ds [] ρ1).bind (fun acc ρ2 => Out.ok (EV.fr acc) ((Its.mk ds none).free (unwipe ρ1 ρ2 vs))) = _
  obtain ⟨ys, ρf, q1, q2, q3⟩ := lcL_draw (ok := (Its.mk ds none).ok) R P (fun _ _ => rfl) ds [] ρ1 h0 hd
  refine ⟨ys, ρf, q1, q2, ?_⟩
  rw [q3]
  simp only [Out.bind_ok, Its.free, List.nil_append]
/-! ### slices by natural places -/
def sub {α : Type} (w : List α) (a b : Nat) : List α := (w.drop a).take (b - a)
theorem cut_nn {α : Type} (w : List α) (a b : Nat) : cutL w (some (a : Int)) (some (b : Int)) = sub w a b := by
  unfold cutL sub
  rw [HT.sIx_nat, HT.sIx_nat]
  by_cases h : a ≤ w.length
  · rw [Nat.min_eq_left h]
    by_cases h2 : b ≤ w.length
    · rw [Nat.min_eq_left h2]
    · rw [Nat.min_eq_right (by omega)]
      rw [List.take_of_length_le (by simp), List.take_of_length_le (by simp; omega)]
  · rw [Nat.min_eq_right (by omega : w.length ≤ a), List.drop_of_length_le (Nat.le_refl _), List.drop_of_length_le (by omega)]
    simp
theorem cut_to {α : Type} (w : List α) (b : Nat) : cutL w none (some (b : Int)) = w.take b := by
  unfold cutL
  rw [HT.sIx_nat, HT.sIx_none]
  simp only [List.drop_zero, Nat.sub_zero]
  by_cases h2 : b ≤ w.length
  · rw [Nat.min_eq_left h2]
  · rw [Nat.min_eq_right (by omega), List.take_of_length_le (Nat.le_refl _), List.take_of_length_le (by omega)]
theorem cut_from {α : Type} (w : List α) (a : Nat) : cutL w (some (a : Int)) none = w.drop a := by
  unfold cutL
  rw [HT.sIx_nat, HT.sIx_none]
  by_cases h : a ≤ w.length
  · rw [Nat.min_eq_left h, List.take_of_length_le (by simp)]
  · rw [Nat.min_eq_right (by omega), List.drop_of_length_le (Nat.le_refl _), List.drop_of_length_le (by omega)]
    simp
theorem rng_mem {lo : Int} {n : Nat} {d : D} (h : d ∈ rng lo n) : ∃ i : Nat, i < n ∧ d = .int (lo + (i : Int)) := by
  unfold rng at h
  obtain ⟨i, hi, rfl⟩ := List.mem_map.mp h
  exact ⟨i, List.mem_range.mp hi, rfl⟩
/-! ### calls with defs and the script among the values -/
def evS : SV → EV
  | .sh d => .sh d
  | .fn x => .fn x
  | .sc ns => .sc ns
  | .ow _ ds => .sh (.list ds)
def plainS : SV → Bool
  | .ow _ _ => false
  | _ => true
def GvS (g : FD) (as : List SV) (r : EV) : Prop := ∃ os, g (as.map some) = .ok r os
theorem gvs_args : ∀ (as : List SV) (ρ : Env), as.all plainS = true → svsOf (as.map evS) ρ = some as
  | [], ρ, _ => rfl
  | a :: as, ρ, h => by
    simp only [List.all_cons, Bool.and_eq_true] at h
    simp only [List.map_cons, svsOf, gvs_args as ρ h.2]
    cases a with
    | ow b ds => cases h.1
    | _ => rfl
theorem gvs_apart : ∀ as : List SV, apartB (as.map evS) = true
  | [] => rfl
  | a :: as => by cases a <;> simp [apartB, evS, gvs_apart as]
theorem gvs_look : ∀ (as : List SV) (j : Nat) (os : Env), lookB j (as.map evS) os = none
  | [], j, os => by simp [lookB]
  | a :: as, j, [] => by cases a <;> simp [lookB, evS]
  | a :: as, j, o :: os => by cases a <;> simp [lookB, evS, gvs_look as j os]
theorem gvs_back (as : List SV) (os ρ : Env) : putBack (as.map evS) os ρ = ρ := by
  unfold putBack
  apply List.ext_getElem?
  intro i
  rw [List.getElem?_mapIdx]
  cases h : ρ[i]? with
  | none => rfl
  | some o =>
    cases o with
    | none => rfl
    | some sv =>
      cases sv with
      | ow b ds => simp [backAt, gvs_look]
      | _ => rfl
theorem gvs_call {g : FD} {as : List SV} {r : EV} (h : GvS g as r) (hp : as.all plainS = true) (hb : ∀ i, r ≠ .bo i) (ρ : Env) : dCallN as.length g (as.map evS) ρ = .ok r ρ := by
  obtain ⟨os, h⟩ := h
  unfold dCallN dCall
  rw [if_pos (by simp), if_pos (gvs_apart as), gvs_args as ρ hp]
  simp only [h]
  cases r with
  | bo i => exact (hb i rfl).elim
  | _ => simp only [gvs_back]
theorem gvs_rt {n : Nat} {b : Env → Out Fl} {as : List SV} {r : EV} (h : rtOf (b (as.map some ++ List.replicate (n - as.length) none)) = some r) (hb : ∀ i, r ≠ .bo i := by intro _ h; cases h) : GvS (fnBody n b) as r := by
  unfold GvS fnBody
  rw [List.length_map]
  cases q : b (as.map some ++ List.replicate (n - as.length) none) with
  | ok fl ρ =>
    rw [q] at h
    cases fl with
    | nx => cases h; exact ⟨_, rfl⟩
    | bk => cases h
    | ct => cases h
    | rt v =>
      cases h
      cases r with
      | bo i => exact (hb i rfl).elim
      | _ => exact ⟨_, rfl⟩
  | exc c fs ρ => rw [q] at h; cases h
  | stuck => rw [q] at h; cases h
theorem call2f {g : FD} {a : D} {x : Str} {r : EV} (h : GvS g [.sh a, .fn x] r) (ρ : Env) (hb : ∀ i, r ≠ .bo i := by intro _ h; cases h) : dCallN 2 g [.sh a, .fn x] ρ = .ok r ρ := gvs_call h rfl hb ρ
/-- what a body's end hands out, from a loop on -/
theorem rtOf_seq_rt {o : Out Fl} {v : EV} {ρ : Env} {k : Env → Out Fl} (h : o = .ok (.rt v) ρ) : rtOf (o.seq k) = some v := by rw [h]; rfl
theorem rtOf_seq_nx {o : Out Fl} {ρ : Env} {k : Env → Out Fl} (h : o = .ok .nx ρ) : rtOf (o.seq k) = rtOf (k ρ) := by rw [h]; rfl
/-! ### ranges of natural bounds -/
theorem inC_nat {n : Nat} (h : n ≤ 1000000000) : inC (n : Int) = true := by
  exact Nat.ble_eq_true_of_le (by omega)
theorem fRng1_nat {n : Nat} (h : n ≤ 1000000000) (ρ : Env) : fRng1 [.sh (.int (n : Int))] ρ = .ok ⟨rng 0 n, none⟩ ρ := by
  simp only [fRng1, inC_nat h, if_true, Int.toNat_natCast]
theorem fRng2_nat {a b : Nat} (h : a ≤ 1000000000) (h2 : b ≤ 1000000000) (ρ : Env) : fRng2 [.sh (.int (a : Int)), .sh (.int (b : Int))] ρ = .ok ⟨rng a (b - a), none⟩ ρ := by
  have e : ((b : Int) - (a : Int)).toNat = b - a := by omega
  simp only [fRng2, inC_nat h, inC_nat h2, and_self, if_true, e]
end DL
namespace DL
open PySem
/-- a loop that looks for the first hit, over data made of plain things -/
theorem forL_look {α : Type} {g : D → Env → Option Env} {fb : Env → Out Fl} {ok : Env → Bool} (ι : α → D) (R : Env → Prop) (f : α → Option EV) (hok : ∀ ρ, R ρ → ok ρ = true) : ∀ (xs : List α) (ρ : Env), R ρ →
    (∀ x ∈ xs, ∀ ρ, R ρ → ∃ ρ1, g (ι x) ρ = some ρ1 ∧ ∃ ρ2, R ρ2 ∧ fb ρ1 = match f x with | some v => .ok (.rt v) ρ2 | none => .ok .nx ρ2) →
    ∃ ρ2, R ρ2 ∧ forL ok g fb (xs.map ι) ρ = match xs.findSome? f with | some v => .ok (.rt v) ρ2 | none => .ok .nx ρ2
  | [], ρ, h, _ => ⟨ρ, h, by simp [forL, hok ρ h]⟩
  | x :: xs, ρ, h, hs => by
    obtain ⟨ρ1, h1, ρ2, h2, h3⟩ := hs x (by simp) ρ h
    cases hf : f x with
    | some v =>
      rw [hf] at h3
      refine ⟨ρ2, h2, ?_⟩
      rw [List.findSome?_cons, hf, List.map_cons]
      unfold forL
      rw [if_pos (hok ρ h), h1]
      simp only [h3, Out.turn_rt]
    | none =>
      rw [hf] at h3
      obtain ⟨ρ3, h4, h5⟩ := forL_look ι R f hok xs ρ2 h2 fun y hy => hs y (by simp [hy])
      refine ⟨ρ3, h4, ?_⟩
      rw [List.findSome?_cons, hf, List.map_cons]
      unfold forL
      rw [if_pos (hok ρ h), h1]
      simp only [h3, Out.turn_nx]
      exact h5
theorem dFor_look {α : Type} {fi : Env → Out Its} {g : D → Env → Option Env} {fb : Env → Out Fl} {ρ ρ1 : Env} (xs : List α) (ι : α → D) (R : Env → Prop) (f : α → Option EV) (hi : fi ρ = .ok ⟨xs.map ι, none⟩ ρ1) (h1 : R ρ1)
    (hs : ∀ x ∈ xs, ∀ ρ, R ρ → ∃ ρ1, g (ι x) ρ = some ρ1 ∧ ∃ ρ2, R ρ2 ∧ fb ρ1 = match f x with | some v => .ok (.rt v) ρ2 | none => .ok .nx ρ2) :
    ∃ ρ2, R ρ2 ∧ dFor fi g fb ρ = match xs.findSome? f with | some v => .ok (.rt v) ρ2 | none => .ok .nx ρ2 := by
  obtain ⟨ρ2, h2, h3⟩ := forL_look (ok := Its.ok ⟨xs.map ι, none⟩) ι R f (fun _ _ => rfl) xs ρ1 h1 hs
  refine ⟨ρ2, h2, ?_⟩
  unfold dFor
  rw [hi]
  show (forL _ g fb (xs.map ι) ρ1).back _ = _
  rw [h3]
  cases xs.findSome? f <;> rfl
/-- a loop that carries a state -/
theorem dFor_fold {α S : Type} {fi : Env → Out Its} {g : D → Env → Option Env} {fb : Env → Out Fl} {ρ ρ1 : Env} (xs : List α) (ι : α → D) (R : S → Env → Prop) (step : S → α → S) (hi : fi ρ = .ok ⟨xs.map ι, none⟩ ρ1) (s : S) (h1 : R s ρ1)
    (hs : ∀ x ∈ xs, ∀ s ρ, R s ρ → ∃ ρ1, g (ι x) ρ = some ρ1 ∧ ∃ ρ2, R (step s x) ρ2 ∧ fb ρ1 = .ok .nx ρ2) :
    ∃ ρ2, R (xs.foldl step s) ρ2 ∧ dFor fi g fb ρ = .ok .nx ρ2 := by
  have key : ∀ (xs : List α), (∀ x ∈ xs, ∀ s ρ, R s ρ → ∃ ρ1, g (ι x) ρ = some ρ1 ∧ ∃ ρ2, R (step s x) ρ2 ∧ fb ρ1 = .ok .nx ρ2) → ∀ (s : S) (ρ : Env), R s ρ → ∃ ρ2, R (xs.foldl step s) ρ2 ∧ forL (fun _ => true) g fb (xs.map ι) ρ = .ok .nx ρ2 := by
    intro xs
    induction xs with
    | nil => intro _ s ρ h; exact ⟨ρ, h, rfl⟩
    | cons x xs ih =>
      intro hs s ρ h
      obtain ⟨ρ1, h1, ρ2, h2, h3⟩ := hs x (by simp) s ρ h
      obtain ⟨ρ3, h4, h5⟩ := ih (fun y hy => hs y (by simp [hy])) _ ρ2 h2
      refine ⟨ρ3, h4, ?_⟩
      rw [List.map_cons]
      unfold forL
      rw [if_pos rfl, h1]
      simp only [h3, Out.turn_nx]
      exact h5
  obtain ⟨ρ2, h2, h3⟩ := key xs hs s ρ1 h1
  refine ⟨ρ2, h2, ?_⟩
  unfold dFor
  rw [hi]
  show (forL _ g fb (xs.map ι) ρ1).back _ = _
  rw [show (Its.ok ⟨xs.map ι, none⟩) = (fun _ => true) from rfl, h3]
  rfl
theorem seq_look {α : Type} {fi : Env → Out Its} {g : D → Env → Option Env} {fb k : Env → Out Fl} {ρ ρ1 : Env} (P : Out Fl → Prop) (xs : List α) (ι : α → D) (R : Env → Prop) (f : α → Option EV) (hi : fi ρ = .ok ⟨xs.map ι, none⟩ ρ1) (h1 : R ρ1)
    (hs : ∀ x ∈ xs, ∀ ρ, R ρ → ∃ ρ1, g (ι x) ρ = some ρ1 ∧ ∃ ρ2, R ρ2 ∧ fb ρ1 = match f x with | some v => .ok (.rt v) ρ2 | none => .ok .nx ρ2)
    (hm : ∀ ρ2, R ρ2 → P (match xs.findSome? f with | some v => .ok (.rt v) ρ2 | none => k ρ2)) : P (fSeq (dFor fi g fb) k ρ) := by
  obtain ⟨ρ2, h2, h3⟩ := dFor_look xs ι R f hi h1 hs
  have h4 := hm ρ2 h2
  unfold fSeq
  rw [h3]
  cases h5 : xs.findSome? f <;> rw [h5] at h4 <;> exact h4
theorem seq_lookX {α : Type} {fi : Env → Out Its} {g : D → Env → Option Env} {fb k : Env → Out Fl} {ρ ρ1 : Env} {R2 : Env → Prop} {X : Env → Out Fl} (xs : List α) (ι : α → D) (R : Env → Prop) (f : α → Option EV) (hi : fi ρ = .ok ⟨xs.map ι, none⟩ ρ1) (h1 : R ρ1)
    (hs : ∀ x ∈ xs, ∀ ρ, R ρ → ∃ ρ1, g (ι x) ρ = some ρ1 ∧ ∃ ρ2, R ρ2 ∧ fb ρ1 = match f x with | some v => .ok (.rt v) ρ2 | none => .ok .nx ρ2)
    (hm : ∀ ρ2, R ρ2 → ∃ ρ3, R2 ρ3 ∧ (match xs.findSome? f with | some v => .ok (.rt v) ρ2 | none => k ρ2) = X ρ3) : ∃ ρ3, R2 ρ3 ∧ fSeq (dFor fi g fb) k ρ = X ρ3 :=
  seq_look (fun o => ∃ ρ3, R2 ρ3 ∧ o = X ρ3) xs ι R f hi h1 hs hm
theorem seq_foldX {α S : Type} {fi : Env → Out Its} {g : D → Env → Option Env} {fb k : Env → Out Fl} {ρ ρ1 : Env} {R2 : Env → Prop} {X : Env → Out Fl} (xs : List α) (ι : α → D) (R : S → Env → Prop) (step : S → α → S) (s : S) (hi : fi ρ = .ok ⟨xs.map ι, none⟩ ρ1) (h1 : R s ρ1)
    (hs : ∀ x ∈ xs, ∀ s ρ, R s ρ → ∃ ρ1, g (ι x) ρ = some ρ1 ∧ ∃ ρ2, R (step s x) ρ2 ∧ fb ρ1 = .ok .nx ρ2)
    (hm : ∀ ρ2, R (xs.foldl step s) ρ2 → ∃ ρ3, R2 ρ3 ∧ k ρ2 = X ρ3) : ∃ ρ3, R2 ρ3 ∧ fSeq (dFor fi g fb) k ρ = X ρ3 := by
  obtain ⟨ρ2, h2, h3⟩ := dFor_fold xs ι R step hi s h1 hs
  have h4 := hm ρ2 h2
  unfold fSeq
  rw [h3]
  exact h4
theorem seq_fold {α S : Type} {fi : Env → Out Its} {g : D → Env → Option Env} {fb k : Env → Out Fl} {ρ ρ1 : Env} (P : Out Fl → Prop) (xs : List α) (ι : α → D) (R : S → Env → Prop) (step : S → α → S) (s : S) (hi : fi ρ = .ok ⟨xs.map ι, none⟩ ρ1) (h1 : R s ρ1)
    (hs : ∀ x ∈ xs, ∀ s ρ, R s ρ → ∃ ρ1, g (ι x) ρ = some ρ1 ∧ ∃ ρ2, R (step s x) ρ2 ∧ fb ρ1 = .ok .nx ρ2)
    (hm : ∀ ρ2, R (xs.foldl step s) ρ2 → P (k ρ2)) : P (fSeq (dFor fi g fb) k ρ) := by
  obtain ⟨ρ2, h2, h3⟩ := dFor_fold xs ι R step hi s h1 hs
  have h4 := hm ρ2 h2
  unfold fSeq
  rw [h3]
  exact h4
theorem rng_nat (a n : Nat) : rng (a : Int) n = (List.range' a n).map fun (p : Nat) => .int (p : Int) := by
  unfold rng
  rw [List.range'_eq_map_range, List.map_map]
  apply List.map_congr_left
  intro i _
  simp
theorem fnAt_fn {i : Nat} {T : Tab} {ρ : Env} {y : Str} (h : ρ[i]? = some (some (.fn y))) : fnAt i T ρ = T.lookup y := by unfold fnAt; rw [h]
end DL
namespace DL
open PySem
/-- a loop that carries a state; what came before is known -/
theorem dFor_foldP {α S : Type} {fi : Env → Out Its} {g : D → Env → Option Env} {fb : Env → Out Fl} {ρ ρ1 : Env} (xs : List α) (ι : α → D) (R : S → Env → Prop) (step : S → α → S) (s : S) (hi : fi ρ = .ok ⟨xs.map ι, none⟩ ρ1) (h1 : R s ρ1)
    (hs : ∀ pre x post, xs = pre ++ x :: post → ∀ ρ, R (pre.foldl step s) ρ → ∃ ρ1, g (ι x) ρ = some ρ1 ∧ ∃ ρ2, R (step (pre.foldl step s) x) ρ2 ∧ fb ρ1 = .ok .nx ρ2) :
    ∃ ρ2, R (xs.foldl step s) ρ2 ∧ dFor fi g fb ρ = .ok .nx ρ2 := by
  have key : ∀ (post pre : List α), xs = pre ++ post → ∀ (ρ : Env), R (pre.foldl step s) ρ → ∃ ρ2, R (xs.foldl step s) ρ2 ∧ forL (fun _ => true) g fb (post.map ι) ρ = .ok .nx ρ2 := by
    intro post
    induction post with
    | nil => intro pre e ρ h; rw [List.append_nil] at e; subst e; exact ⟨ρ, h, rfl⟩
    | cons x post ih =>
      intro pre e ρ h
      obtain ⟨ρ1, h1, ρ2, h2, h3⟩ := hs pre x post e ρ h
      obtain ⟨ρ3, h4, h5⟩ := ih (pre ++ [x]) (by rw [e]; simp) ρ2 (by rw [List.foldl_append]; exact h2)
      refine ⟨ρ3, h4, ?_⟩
      rw [List.map_cons]
      unfold forL
      rw [if_pos rfl, h1]
      simp only [h3, Out.turn_nx]
      exact h5
  obtain ⟨ρ2, h2, h3⟩ := key xs [] rfl ρ1 h1
  refine ⟨ρ2, h2, ?_⟩
  unfold dFor
  rw [hi]
  show (forL _ g fb (xs.map ι) ρ1).back _ = _
  rw [show (Its.ok ⟨xs.map ι, none⟩) = (fun _ => true) from rfl, h3]
  rfl
theorem seq_foldP {α S : Type} {fi : Env → Out Its} {g : D → Env → Option Env} {fb k : Env → Out Fl} {ρ ρ1 : Env} (P : Out Fl → Prop) (xs : List α) (ι : α → D) (R : S → Env → Prop) (step : S → α → S) (s : S) (hi : fi ρ = .ok ⟨xs.map ι, none⟩ ρ1) (h1 : R s ρ1)
    (hs : ∀ pre x post, xs = pre ++ x :: post → ∀ ρ, R (pre.foldl step s) ρ → ∃ ρ1, g (ι x) ρ = some ρ1 ∧ ∃ ρ2, R (step (pre.foldl step s) x) ρ2 ∧ fb ρ1 = .ok .nx ρ2)
    (hm : ∀ ρ2, R (xs.foldl step s) ρ2 → P (k ρ2)) : P (fSeq (dFor fi g fb) k ρ) := by
  obtain ⟨ρ2, h2, h3⟩ := dFor_foldP xs ι R step s hi h1 hs
  have h4 := hm ρ2 h2
  unfold fSeq
  rw [h3]
  exact h4
theorem seq_foldPX {α S : Type} {fi : Env → Out Its} {g : D → Env → Option Env} {fb k : Env → Out Fl} {ρ ρ1 : Env} {R2 : Env → Prop} {X : Env → Out Fl} (xs : List α) (ι : α → D) (R : S → Env → Prop) (step : S → α → S) (s : S) (hi : fi ρ = .ok ⟨xs.map ι, none⟩ ρ1) (h1 : R s ρ1)
    (hs : ∀ pre x post, xs = pre ++ x :: post → ∀ ρ, R (pre.foldl step s) ρ → ∃ ρ1, g (ι x) ρ = some ρ1 ∧ ∃ ρ2, R (step (pre.foldl step s) x) ρ2 ∧ fb ρ1 = .ok .nx ρ2)
    (hm : ∀ ρ2, R (xs.foldl step s) ρ2 → ∃ ρ3, R2 ρ3 ∧ k ρ2 = X ρ3) : ∃ ρ3, R2 ρ3 ∧ fSeq (dFor fi g fb) k ρ = X ρ3 :=
  seq_foldP (fun o => ∃ ρ3, R2 ρ3 ∧ o = X ρ3) xs ι R step s hi h1 hs hm
end DL
namespace DL
open PySem L2
/-! ### calls whose first argument is an own list -/
def GvP (g : FD) (ds : List D) (as : List D) (r : EV) (ds' : List D) : Prop := ∃ os, g (some (.ow true ds) :: as.map fun d => some (.sh d)) = .ok r (some (.ow true ds') :: os)
theorem gvp_call {g : FD} {ds ds' : List D} {as : List D} {r : EV} (h : GvP g ds as r ds') (hb : ∀ i, r ≠ .bo i) {ρ : Env} {i : Nat} {b : Bool} (hi : ρ[i]? = some (some (.ow b ds))) : dCallN (as.length + 1) g (.bo i :: as.map EV.sh) ρ = .ok r (ρ.set i (some (.ow b ds'))) := by
  obtain ⟨os, h⟩ := h
  have hnb : (as.map EV.sh).any (isBo i) = false := by
    rw [List.any_eq_false]
    intro x hx
    obtain ⟨d, _, rfl⟩ := List.mem_map.mp hx
    simp [isBo]
  have ha : apartB (.bo i :: as.map EV.sh) = true := by
    simp only [apartB, hnb, gv_apart, Bool.not_false, Bool.and_self]
  have hs : svsOf (.bo i :: as.map EV.sh) ρ = some (.ow true ds :: as.map SV.sh) := by
    simp only [svsOf, svOf, hi, gv_args]
  unfold dCallN dCall
  rw [if_pos (by simp), if_pos ha, hs]
  simp only [List.map_cons, List.map_map]
  have e : g (some (SV.ow true ds) :: as.map (some ∘ SV.sh)) = .ok r (some (.ow true ds') :: os) := h
  rw [e]
  have hp : putBack (.bo i :: as.map EV.sh) (some (.ow true ds') :: os) ρ = ρ.set i (some (.ow b ds')) := by
    unfold putBack
    apply List.ext_getElem?
    intro j
    rw [List.getElem?_mapIdx]
    by_cases hj : i = j
    · subst hj
      rw [hi, List.getElem?_set_self (List.getElem?_eq_some_iff.mp hi).1]
      simp [backAt, lookB]
    · rw [List.getElem?_set_ne hj]
      cases h : ρ[j]? with
      | none => rfl
      | some o =>
        cases o with
        | none => rfl
        | some sv =>
          cases sv with
          | ow b ds => simp [backAt, lookB, hj, gv_look]
          | _ => rfl
  cases r with
  | bo i => exact (hb i rfl).elim
  | _ => simp only [hp]
theorem callP0 {g : FD} {ds ds' : List D} {r : EV} (h : GvP g ds [] r ds') {ρ : Env} {i : Nat} {b : Bool} (hi : ρ[i]? = some (some (.ow b ds))) (hb : ∀ i, r ≠ .bo i := by intro _ h; cases h) : dCallN 1 g [.bo i] ρ = .ok r (ρ.set i (some (.ow b ds'))) := gvp_call h hb hi
theorem callP1 {g : FD} {ds ds' : List D} {a : D} {r : EV} (h : GvP g ds [a] r ds') {ρ : Env} {i : Nat} {b : Bool} (hi : ρ[i]? = some (some (.ow b ds))) (hb : ∀ i, r ≠ .bo i := by intro _ h; cases h) : dCallN 2 g [.bo i, .sh a] ρ = .ok r (ρ.set i (some (.ow b ds'))) := gvp_call h hb hi
theorem callP2 {g : FD} {ds ds' : List D} {a c : D} {r : EV} (h : GvP g ds [a, c] r ds') {ρ : Env} {i : Nat} {b : Bool} (hi : ρ[i]? = some (some (.ow b ds))) (hb : ∀ i, r ≠ .bo i := by intro _ h; cases h) : dCallN 3 g [.bo i, .sh a, .sh c] ρ = .ok r (ρ.set i (some (.ow b ds'))) := gvp_call h hb hi
theorem callP3 {g : FD} {ds ds' : List D} {a c e : D} {r : EV} (h : GvP g ds [a, c, e] r ds') {ρ : Env} {i : Nat} {b : Bool} (hi : ρ[i]? = some (some (.ow b ds))) (hb : ∀ i, r ≠ .bo i := by intro _ h; cases h) : dCallN 4 g [.bo i, .sh a, .sh c, .sh e] ρ = .ok r (ρ.set i (some (.ow b ds'))) := gvp_call h hb hi
/-- what a body's end hands out, with the first slot's list -/
def rtP : Out Fl → Option (EV × List D)
  | .ok (.rt v) (some (.ow true ds) :: _) => some (v, ds)
  | .ok .nx (some (.ow true ds) :: _) => some (.sh .none, ds)
  | _ => none
theorem rtP_rt (v : EV) (ds : List D) (ρ : Env) : rtP (.ok (.rt v) (some (.ow true ds) :: ρ)) = some (v, ds) := rfl
theorem rtP_nx (ds : List D) (ρ : Env) : rtP (.ok .nx (some (.ow true ds) :: ρ)) = some (.sh .none, ds) := rfl
theorem rtP_ite (c : Prop) [Decidable c] (a b : Out Fl) : rtP (if c then a else b) = if c then rtP a else rtP b := by split <;> rfl
theorem gvp_rt {n : Nat} {b : Env → Out Fl} {ds ds' : List D} {as : List D} {r : EV} (h : rtP (b (some (.ow true ds) :: ((as.map fun d => some (.sh d)) ++ List.replicate (n - (as.length + 1)) none))) = some (r, ds')) (hb : ∀ i, r ≠ .bo i := by intro _ h; cases h) : GvP (fnBody n b) ds as r ds' := by
  unfold GvP fnBody
  rw [List.length_cons, List.length_map, List.cons_append]
  cases q : b (some (.ow true ds) :: ((as.map fun d => some (.sh d)) ++ List.replicate (n - (as.length + 1)) none)) with
  | ok fl ρ =>
    rw [q] at h
    cases ρ with
    | nil => cases fl <;> cases h
    | cons o ρ =>
      cases o with
      | none => cases fl <;> cases h
      | some sv =>
        cases sv with
        | ow b1 es =>
          cases b1 with
          | false => cases fl <;> cases h
          | true =>
            cases fl with
            | nx => cases h; exact ⟨_, rfl⟩
            | bk => cases h
            | ct => cases h
            | rt v =>
              cases h
              cases r with
              | bo i => exact (hb i rfl).elim
              | _ => exact ⟨_, rfl⟩
        | _ => cases fl <;> cases h
  | exc c fs ρ => rw [q] at h; cases h
  | stuck => rw [q] at h; cases h
theorem seq_step (P : Out Fl → Prop) {f k : Env → Out Fl} {ρ : Env} (ρ' : Env) (h : f ρ = .ok .nx ρ') (hm : P (k ρ')) : P (fSeq f k ρ) := by
  unfold fSeq
  rw [h]
  exact hm
theorem rd2_shfr (op : D → D → Env → Out EV) (a : D) (b : List D) (ρ : Env) : rd2 op (.sh a) (.fr b) ρ = op a (.list b) ρ := rfl
theorem rd2_frsh (op : D → D → Env → Out EV) (a : List D) (b : D) (ρ : Env) : rd2 op (.fr a) (.sh b) ρ = op (.list a) b ρ := rfl
theorem rd2_frfr (op : D → D → Env → Out EV) (a b : List D) (ρ : Env) : rd2 op (.fr a) (.fr b) ρ = op (.list a) (.list b) ρ := rfl
theorem permL_one (x : EV) : permL [0] [x] = [x] := rfl
theorem permL_two (x y : EV) : permL [1, 0] [x, y] = [y, x] := rfl
theorem opNe_same_str (x : Str) (ρ : Env) : opNe (.str x) (.str x) ρ = .ok (.sh (.bool false)) ρ := by
  unfold opNe
  rw [if_pos (by simp [PyData.depth])]
  simp [PyData.eqv]
theorem opEq_same_str (x : Str) (ρ : Env) : opEq (.str x) (.str x) ρ = .ok (.sh (.bool true)) ρ := by
  unfold opEq
  rw [if_pos (by simp [PyData.depth])]
  simp [PyData.eqv]
theorem opNe_bool (a b : Bool) (ρ : Env) : opNe (.bool a) (.bool b) ρ = .ok (.sh (.bool (a != b))) ρ := by
  unfold opNe
  rw [if_pos (by simp [PyData.depth])]
  cases a <;> cases b <;> simp [PyData.eqv]
/-! ### loops over an own list -/
theorem forL_foldP {α S : Type} {ok : Env → Bool} {g : D → Env → Option Env} {fb : Env → Out Fl} {ρ1 : Env} (xs : List α) (ι : α → D) (R : S → Env → Prop) (step : S → α → S) (s : S) (hok : ∀ s ρ, R s ρ → ok ρ = true) (h1 : R s ρ1)
    (hs : ∀ pre x post, xs = pre ++ x :: post → ∀ ρ, R (pre.foldl step s) ρ → ∃ ρ1, g (ι x) ρ = some ρ1 ∧ ∃ ρ2, R (step (pre.foldl step s) x) ρ2 ∧ fb ρ1 = .ok .nx ρ2) :
    ∃ ρ2, R (xs.foldl step s) ρ2 ∧ forL ok g fb (xs.map ι) ρ1 = .ok .nx ρ2 := by
  have key : ∀ (post pre : List α), xs = pre ++ post → ∀ (ρ : Env), R (pre.foldl step s) ρ → ∃ ρ2, R (xs.foldl step s) ρ2 ∧ forL ok g fb (post.map ι) ρ = .ok .nx ρ2 := by
    intro post
    induction post with
    | nil => intro pre e ρ h; rw [List.append_nil] at e; subst e; exact ⟨ρ, h, by rw [List.map_nil]; unfold forL; rw [if_pos (hok _ _ h)]⟩
    | cons x post ih =>
      intro pre e ρ h
      obtain ⟨ρ1, h1, ρ2, h2, h3⟩ := hs pre x post e ρ h
      obtain ⟨ρ3, h4, h5⟩ := ih (pre ++ [x]) (by rw [e]; simp) ρ2 (by rw [List.foldl_append]; exact h2)
      refine ⟨ρ3, h4, ?_⟩
      rw [List.map_cons]
      unfold forL
      rw [if_pos (hok _ _ h), h1]
      simp only [h3, Out.turn_nx]
      exact h5
  exact key xs [] rfl ρ1 h1
theorem seq_foldO {α S : Type} {fi : Env → Out Its} {g : D → Env → Option Env} {fb k : Env → Out Fl} {ρ ρ1 : Env} {chk} (P : Out Fl → Prop) (xs : List α) (ι : α → D) (R : S → Env → Prop) (step : S → α → S) (s : S) (hi : fi ρ = .ok ⟨xs.map ι, chk⟩ ρ1) (hok : ∀ s ρ, R s ρ → Its.ok ⟨xs.map ι, chk⟩ ρ = true) (h1 : R s (Its.grab ⟨xs.map ι, chk⟩ ρ1))
    (hs : ∀ pre x post, xs = pre ++ x :: post → ∀ ρ, R (pre.foldl step s) ρ → ∃ ρ1, g (ι x) ρ = some ρ1 ∧ ∃ ρ2, R (step (pre.foldl step s) x) ρ2 ∧ fb ρ1 = .ok .nx ρ2)
    (hm : ∀ ρ2, R (xs.foldl step s) ρ2 → P (k (Its.free ⟨xs.map ι, chk⟩ ρ2))) : P (fSeq (dFor fi g fb) k ρ) := by
  obtain ⟨ρ2, h2, h3⟩ := forL_foldP xs ι R step s hok h1 hs
  have h4 := hm ρ2 h2
  have e : dFor fi g fb ρ = .ok .nx (Its.free ⟨xs.map ι, chk⟩ ρ2) := by
    unfold dFor
    rw [hi]
    show (forL _ g fb (xs.map ι) _).back _ = _
    rw [h3]; rfl
  unfold fSeq
  rw [e]
  exact h4
theorem seq_foldOX {α S : Type} {fi : Env → Out Its} {g : D → Env → Option Env} {fb k : Env → Out Fl} {ρ ρ1 : Env} {chk} {R2 : Env → Prop} {X : Env → Out Fl} (xs : List α) (ι : α → D) (R : S → Env → Prop) (step : S → α → S) (s : S) (hi : fi ρ = .ok ⟨xs.map ι, chk⟩ ρ1) (hok : ∀ s ρ, R s ρ → Its.ok ⟨xs.map ι, chk⟩ ρ = true) (h1 : R s (Its.grab ⟨xs.map ι, chk⟩ ρ1))
    (hs : ∀ pre x post, xs = pre ++ x :: post → ∀ ρ, R (pre.foldl step s) ρ → ∃ ρ1, g (ι x) ρ = some ρ1 ∧ ∃ ρ2, R (step (pre.foldl step s) x) ρ2 ∧ fb ρ1 = .ok .nx ρ2)
    (hm : ∀ ρ2, R (xs.foldl step s) ρ2 → ∃ ρ3, R2 ρ3 ∧ k (Its.free ⟨xs.map ι, chk⟩ ρ2) = X ρ3) : ∃ ρ3, R2 ρ3 ∧ fSeq (dFor fi g fb) k ρ = X ρ3 :=
  seq_foldO (fun o => ∃ ρ3, R2 ρ3 ∧ o = X ρ3) xs ι R step s hi hok h1 hs hm
/-- comprehensions over an own list, parts may change the env -/
theorem fLc_drawO {fi : Env → Out Its} {g : D → Env → Option Env} {fe : Env → Out EV} {vs : List Nat} {ρ ρ1 : Env} {ds : List D} {chk} (R : Env → Prop) (P : D → D → Prop) (hi : fi ρ = .ok ⟨ds, chk⟩ ρ1) (hn : noOwn (Its.grab ⟨ds, chk⟩ ρ1) vs = true) (hl : ds.length ≤ sizeLine) (hok : ∀ e, R e → Its.ok ⟨ds, chk⟩ e = true) (h0 : R (wipeE (Its.grab ⟨ds, chk⟩ ρ1) vs))
    (hd : ∀ d ∈ ds, ∀ e, R e → ∃ ρa y ρc, g d e = some ρa ∧ (fe ρa).bind frz = .ok y ρc ∧ P d y ∧ R (wipeE ρc vs)) : ∃ ys ρf, Paired P ds ys ∧ R (wipeE ρf vs) ∧ fLc fi g fYes fe vs ρ = .ok (.fr ys) (Its.free ⟨ds, chk⟩ (unwipe (Its.grab ⟨ds, chk⟩ ρ1) ρf vs)) := by
  unfold fLc
  rw [hi]
  simp only [Out.bind_ok]
  unfold lcGo
  rw [if_pos (show noOwn ((Its.mk ds chk).grab ρ1) vs = true ∧ (Its.mk ds chk).ds.length ≤ sizeLine from ⟨hn, hl⟩)]
  show ∃ ys ρf, _ ∧ _ ∧ (lcL (Its.mk ds chk).ok g fYes fe vs ds [] _).bind (fun acc ρ2 => Out.ok (EV.fr acc) ((Its.mk ds chk).free (unwipe _ ρ2 vs))) = _
  obtain ⟨ys, ρf, q1, q2, q3⟩ := lcL_draw (ok := (Its.mk ds chk).ok) R P hok ds [] _ h0 hd
  refine ⟨ys, ρf, q1, q2, ?_⟩
  rw [q3]
  simp only [Out.bind_ok, List.nil_append]
end DL
namespace DL
open PySem
/-! ### what repr shows is short -/
mutual
def fitD : D → Bool
  | .none => true
  | .bool _ => true
  | .int i => decide (i.natAbs.log2 < 1920)
  | .str x => x.cps.toList.all fun c => Nat.ble c 4294967295
  | .tuple ds => fitL ds
  | .list ds => fitL ds
  | .dict _ => false
def fitL : List D → Bool
  | [] => true
  | d :: ds => fitD d && fitL ds
end
mutual
def wgt : D → Nat
  | .none => 4
  | .bool _ => 5
  | .int _ => 1921
  | .str x => 10 * x.length + 2
  | .tuple ds => wgtL ds + 3
  | .list ds => wgtL ds + 3
  | .dict _ => 0
def wgtL : List D → Nat
  | [] => 0
  | d :: ds => wgt d + 2 + wgtL ds
end
theorem join_len : ∀ xs : List Str, (Str.join ", " xs).length ≤ (xs.map fun x => x.length + 2).sum
  | [] => by decide
  | [x] => by
    show x.length ≤ _
    simp only [List.map_cons, List.map_nil, List.sum_cons, List.sum_nil]
    omega
  | x :: y :: zs => by
    have e : Str.join ", " (x :: y :: zs) = x ++ ", " ++ Str.join ", " (y :: zs) := rfl
    have h := join_len (y :: zs)
    rw [e, str_len_app, str_len_app]
    have e2 : ((", " : String) : Str).length = 2 := by decide +kernel
    rw [List.map_cons, List.sum_cons]
    omega
theorem shown_le_of (ds : List D) (h : ((PyData.shownAll ds).map (fun x => x.length + 2)).sum ≤ wgtL ds) : (PyData.tuple ds).shown.length ≤ wgtL ds + 3 ∧ (PyData.list ds).shown.length ≤ wgtL ds + 3 := by
  have j := join_len (PyData.shownAll ds)
  rw [PyData.shown_tuple, PyData.shown_list, str_len_app, str_len_app, str_len_app, str_len_app]
  have e1 : ((")" : String) : Str).length = 1 := by decide +kernel
  have e2 : (("(" : String) : Str).length = 1 := by decide +kernel
  have e3 : ((",)" : String) : Str).length = 2 := by decide +kernel
  have e4 : (("[" : String) : Str).length = 1 := by decide +kernel
  have e5 : (("]" : String) : Str).length = 1 := by decide +kernel
  refine ⟨?_, by omega⟩
  split <;> omega
mutual
theorem shown_le : ∀ d : D, fitD d = true → d.shown.length ≤ wgt d ∧ d.showable = true
  | .none, _ => by
    rw [PyData.shown_none]
    exact ⟨by decide +kernel, by simp only [PyData.showable]⟩
  | .bool b, _ => by
    rw [PyData.shown_bool]
    refine ⟨?_, by simp only [PyData.showable]⟩
    cases b <;> decide +kernel
  | .int i, h => by
    simp only [fitD, decide_eq_true_eq] at h
    rw [PyData.shown_int]
    refine ⟨?_, by simp only [PyData.showable, decide_eq_true_eq]; exact h⟩
    have := int_text_length_le (k := 1920) (by decide) h
    show (PySem.Str.ofString (toString i)).length ≤ 1921
    rw [PySem.ofString_length]
    exact this
  | .str x, h => by
    simp only [fitD, List.all_eq_true] at h
    rw [PyData.shown_str]
    exact ⟨StrLaws.reprText_len x fun c hc => by have := Nat.le_of_ble_eq_true (h c hc); omega, by simp only [PyData.showable]⟩
  | .tuple ds, h => by
    simp only [fitD] at h
    obtain ⟨h1, h2⟩ := shownL_le ds h
    exact ⟨by simp only [wgt]; exact (shown_le_of ds h1).1, by simp only [PyData.showable]; exact h2⟩
  | .list ds, h => by
    simp only [fitD] at h
    obtain ⟨h1, h2⟩ := shownL_le ds h
    exact ⟨by simp only [wgt]; exact (shown_le_of ds h1).2, by simp only [PyData.showable]; exact h2⟩
  | .dict _, h => by simp only [fitD] at h; cases h
theorem shownL_le : ∀ ds : List D, fitL ds = true → ((PyData.shownAll ds).map (fun x => x.length + 2)).sum ≤ wgtL ds ∧ PyData.showableAll ds = true
  | [], _ => by simp only [PyData.shownAll, PyData.showableAll, List.map_nil, List.sum_nil]; exact ⟨Nat.zero_le _, trivial⟩
  | d :: ds, h => by
    simp only [fitL, Bool.and_eq_true] at h
    obtain ⟨h1, h2⟩ := shown_le d h.1
    obtain ⟨h3, h4⟩ := shownL_le ds h.2
    simp only [PyData.shownAll, PyData.showableAll, List.map_cons, List.sum_cons, wgtL, h2, h4, Bool.and_self, and_true]
    omega
end
theorem repOk_of {d : D} (h : fitD d = true) (h2 : wgt d ≤ 1000000) (h3 : d.depth ≤ 60) : repOk d = true := by
  obtain ⟨h4, h5⟩ := shown_le d h
  have hz : (1000000 : Nat) ≤ sizeLine := by rw [sizeLine_eq]; decide
  unfold repOk
  simp only [h5, Bool.true_and, Bool.and_eq_true, decide_eq_true_eq]
  exact ⟨by omega, h3⟩
end DL
namespace K87
open PySem DL
theorem lit_abc : ("abc" : Str) = Sw [97, 98, 99] := by decide +kernel
theorem lit_images : ("images" : Str) = Sw [105, 109, 97, 103, 101, 115] := by decide +kernel
theorem lit_test : ("abbabaab" : Str) = Sw [97, 98, 98, 97, 98, 97, 97, 98] := by decide +kernel
theorem lit_empty : ("" : Str) = Sw [] := by decide +kernel
theorem lit_squares : ("squares" : Str) = Sw [115, 113, 117, 97, 114, 101, 115] := by decide +kernel
theorem lit_overlaps : ("overlaps" : Str) = Sw [111, 118, 101, 114, 108, 97, 112, 115] := by decide +kernel
theorem lit_cubes : ("cubes" : Str) = Sw [99, 117, 98, 101, 115] := by decide +kernel
abbrev IMG : D := dw [105, 109, 97, 103, 101, 115]
def imD (u v : List Nat) : D := .tuple [IMG, .tuple [dw u, dw v]]
def AB (w : List Nat) : Prop := ∀ c ∈ w, c = 97 ∨ c = 98
theorem is_integer_int (i : Int) : Gv g_is_integer [.int i] (.sh (.bool true)) := by
  refine gv_rt ?_
  unfold b_is_integer
  simp only [fVar, fC, fFn, fBin, fIx, fSl, rdSl, opSl, fPart, partV, fNo, fNil, fCons, dArg, argv_sh, argv_fr, argv_bo, argv_sc, argv_fn, fNilD, fConsD, frz_sh, frz_fr, rd_sh, rd_fr, rdS_sh, rdS_fr, rdS_sc, rdS_bo, rdSs_nil', rdSs_sh, rdSs_sc, Option.map_some, rd2_sh, rdI_sh, fLst, fTup, lstV, tupV, fCB, rdC, fIsi, isiV, fCall, dIf, fSeq, fRet, fRetN, fNx, fCt, fBk, leave, fTru, tru, fBool, boolV, tAnd', tOr', tNot', opMul_l, opMul_r, opFdiv_p, opMod_p, Int.reduceLT, Int.reduceNeg, Int.reduceAdd, Int.reduceSub, Int.reduceMul, vAnd_eq, vOr_eq, andV_bool, orV_bool, bind_ite, seq_ite, turn_ite, rtOf_ite, rtOf_rt, rtOf_nx, opEq_int, opNe_int, opEq_str, opNe_str, opLt_int, opGt_int, opLe_int, opGe_int, isi_int_none, isi_int_bool, isi_int_int, isi_int_str, isi_int_list, isi_int_tuple, isi_bool_none, isi_bool_bool, isi_bool_int, isi_bool_str, isi_bool_list, isi_bool_tuple, isi_str_none, isi_str_bool, isi_str_int, isi_str_str, isi_str_list, isi_str_tuple, isi_list_none, isi_list_bool, isi_list_int, isi_list_str, isi_list_list, isi_list_tuple, isi_tuple_none, isi_tuple_bool, isi_tuple_int, isi_tuple_str, isi_tuple_list, isi_tuple_tuple, vNot, vIf, fIsN, isNV, isN, fChain_eq, truD, decide_true, decide_false, Bool.not_true, Bool.not_false, decide_eq_true_eq, Int.cast_ofNat_Int, Int.reduceLE, Int.reduceEq, Int.reduceToNat, not_true_eq_false, not_false_eq_true, Bool.true_eq_false, dSet, dSto, stS, dSetM, dMv, dAsg, gN, gT, gCons, gNil, gSubL, dPar, stosP, stoP, fConsP, dExpr, fYes, fIr, dFor, dIt, fItems, itemsOf, fApp, appV, fMt_eq, fMt0_eq, mtS_str, mtS0_str, opS_some, tyName, dSub, subV, isOw, fMut, fMut0, mutV, fExt, extV, Out.bind_ok, Out.bind_exc, Out.bind_stuck, Out.seq_nx, Out.seq_rt, Out.seq_bk, Out.seq_ct, Out.seq_exc, Out.seq_stuck, Out.back_nx, Out.back_rt, Out.back_exc, Out.turn_nx, Out.turn_rt, Out.turn_ct, Out.turn_bk, List.getElem?_cons_zero, List.getElem?_cons_succ, List.set_cons_zero, List.set_cons_succ, List.cons_append, List.nil_append, List.map_cons, List.map_nil, List.replicate, List.length_cons, List.length_nil, if_true, if_false, Bool.false_eq_true, opLen, opAdd, opSub, opIx, Sw_len, Sw_add, Sw_cut, Sw_cps, Its.grab, Its.free, Nat.zero_add, Nat.sub_zero, Nat.reduceAdd, Nat.reduceSub]
theorem is_integer_bool (i : Bool) : Gv g_is_integer [.bool i] (.sh (.bool false)) := by
  refine gv_rt ?_
  unfold b_is_integer
  simp only [fVar, fC, fFn, fBin, fIx, fSl, rdSl, opSl, fPart, partV, fNo, fNil, fCons, dArg, argv_sh, argv_fr, argv_bo, argv_sc, argv_fn, fNilD, fConsD, frz_sh, frz_fr, rd_sh, rd_fr, rdS_sh, rdS_fr, rdS_sc, rdS_bo, rdSs_nil', rdSs_sh, rdSs_sc, Option.map_some, rd2_sh, rdI_sh, fLst, fTup, lstV, tupV, fCB, rdC, fIsi, isiV, fCall, dIf, fSeq, fRet, fRetN, fNx, fCt, fBk, leave, fTru, tru, fBool, boolV, tAnd', tOr', tNot', opMul_l, opMul_r, opFdiv_p, opMod_p, Int.reduceLT, Int.reduceNeg, Int.reduceAdd, Int.reduceSub, Int.reduceMul, vAnd_eq, vOr_eq, andV_bool, orV_bool, bind_ite, seq_ite, turn_ite, rtOf_ite, rtOf_rt, rtOf_nx, opEq_int, opNe_int, opEq_str, opNe_str, opLt_int, opGt_int, opLe_int, opGe_int, isi_int_none, isi_int_bool, isi_int_int, isi_int_str, isi_int_list, isi_int_tuple, isi_bool_none, isi_bool_bool, isi_bool_int, isi_bool_str, isi_bool_list, isi_bool_tuple, isi_str_none, isi_str_bool, isi_str_int, isi_str_str, isi_str_list, isi_str_tuple, isi_list_none, isi_list_bool, isi_list_int, isi_list_str, isi_list_list, isi_list_tuple, isi_tuple_none, isi_tuple_bool, isi_tuple_int, isi_tuple_str, isi_tuple_list, isi_tuple_tuple, vNot, vIf, fIsN, isNV, isN, fChain_eq, truD, decide_true, decide_false, Bool.not_true, Bool.not_false, decide_eq_true_eq, Int.cast_ofNat_Int, Int.reduceLE, Int.reduceEq, Int.reduceToNat, not_true_eq_false, not_false_eq_true, Bool.true_eq_false, dSet, dSto, stS, dSetM, dMv, dAsg, gN, gT, gCons, gNil, gSubL, dPar, stosP, stoP, fConsP, dExpr, fYes, fIr, dFor, dIt, fItems, itemsOf, fApp, appV, fMt_eq, fMt0_eq, mtS_str, mtS0_str, opS_some, tyName, dSub, subV, isOw, fMut, fMut0, mutV, fExt, extV, Out.bind_ok, Out.bind_exc, Out.bind_stuck, Out.seq_nx, Out.seq_rt, Out.seq_bk, Out.seq_ct, Out.seq_exc, Out.seq_stuck, Out.back_nx, Out.back_rt, Out.back_exc, Out.turn_nx, Out.turn_rt, Out.turn_ct, Out.turn_bk, List.getElem?_cons_zero, List.getElem?_cons_succ, List.set_cons_zero, List.set_cons_succ, List.cons_append, List.nil_append, List.map_cons, List.map_nil, List.replicate, List.length_cons, List.length_nil, if_true, if_false, Bool.false_eq_true, opLen, opAdd, opSub, opIx, Sw_len, Sw_add, Sw_cut, Sw_cps, Its.grab, Its.free, Nat.zero_add, Nat.sub_zero, Nat.reduceAdd, Nat.reduceSub]
theorem is_count_int (i : Int) : Gv g_is_count [.int i] (.sh (.bool (decide (0 ≤ i)))) := by
  refine gv_rt ?_
  unfold b_is_count
  simp only [fVar, fC, fFn, fBin, fIx, fSl, rdSl, opSl, fPart, partV, fNo, fNil, fCons, dArg, argv_sh, argv_fr, argv_bo, argv_sc, argv_fn, fNilD, fConsD, frz_sh, frz_fr, rd_sh, rd_fr, rdS_sh, rdS_fr, rdS_sc, rdS_bo, rdSs_nil', rdSs_sh, rdSs_sc, Option.map_some, rd2_sh, rdI_sh, fLst, fTup, lstV, tupV, fCB, rdC, fIsi, isiV, fCall, dIf, fSeq, fRet, fRetN, fNx, fCt, fBk, leave, fTru, tru, fBool, boolV, tAnd', tOr', tNot', opMul_l, opMul_r, opFdiv_p, opMod_p, Int.reduceLT, Int.reduceNeg, Int.reduceAdd, Int.reduceSub, Int.reduceMul, vAnd_eq, vOr_eq, andV_bool, orV_bool, bind_ite, seq_ite, turn_ite, rtOf_ite, rtOf_rt, rtOf_nx, opEq_int, opNe_int, opEq_str, opNe_str, opLt_int, opGt_int, opLe_int, opGe_int, isi_int_none, isi_int_bool, isi_int_int, isi_int_str, isi_int_list, isi_int_tuple, isi_bool_none, isi_bool_bool, isi_bool_int, isi_bool_str, isi_bool_list, isi_bool_tuple, isi_str_none, isi_str_bool, isi_str_int, isi_str_str, isi_str_list, isi_str_tuple, isi_list_none, isi_list_bool, isi_list_int, isi_list_str, isi_list_list, isi_list_tuple, isi_tuple_none, isi_tuple_bool, isi_tuple_int, isi_tuple_str, isi_tuple_list, isi_tuple_tuple, vNot, vIf, fIsN, isNV, isN, fChain_eq, truD, decide_true, decide_false, Bool.not_true, Bool.not_false, decide_eq_true_eq, Int.cast_ofNat_Int, Int.reduceLE, Int.reduceEq, Int.reduceToNat, not_true_eq_false, not_false_eq_true, Bool.true_eq_false, dSet, dSto, stS, dSetM, dMv, dAsg, gN, gT, gCons, gNil, gSubL, dPar, stosP, stoP, fConsP, dExpr, fYes, fIr, dFor, dIt, fItems, itemsOf, fApp, appV, fMt_eq, fMt0_eq, mtS_str, mtS0_str, opS_some, tyName, dSub, subV, isOw, fMut, fMut0, mutV, fExt, extV, Out.bind_ok, Out.bind_exc, Out.bind_stuck, Out.seq_nx, Out.seq_rt, Out.seq_bk, Out.seq_ct, Out.seq_exc, Out.seq_stuck, Out.back_nx, Out.back_rt, Out.back_exc, Out.turn_nx, Out.turn_rt, Out.turn_ct, Out.turn_bk, List.getElem?_cons_zero, List.getElem?_cons_succ, List.set_cons_zero, List.set_cons_succ, List.cons_append, List.nil_append, List.map_cons, List.map_nil, List.replicate, List.length_cons, List.length_nil, if_true, if_false, Bool.false_eq_true, opLen, opAdd, opSub, opIx, Sw_len, Sw_add, Sw_cut, Sw_cps, Its.grab, Its.free, Nat.zero_add, Nat.sub_zero, Nat.reduceAdd, Nat.reduceSub, call1 (is_integer_int i)]
theorem is_count_bool (i : Bool) : Gv g_is_count [.bool i] (.sh (.bool false)) := by
  refine gv_rt ?_
  unfold b_is_count
  simp only [fVar, fC, fFn, fBin, fIx, fSl, rdSl, opSl, fPart, partV, fNo, fNil, fCons, dArg, argv_sh, argv_fr, argv_bo, argv_sc, argv_fn, fNilD, fConsD, frz_sh, frz_fr, rd_sh, rd_fr, rdS_sh, rdS_fr, rdS_sc, rdS_bo, rdSs_nil', rdSs_sh, rdSs_sc, Option.map_some, rd2_sh, rdI_sh, fLst, fTup, lstV, tupV, fCB, rdC, fIsi, isiV, fCall, dIf, fSeq, fRet, fRetN, fNx, fCt, fBk, leave, fTru, tru, fBool, boolV, tAnd', tOr', tNot', opMul_l, opMul_r, opFdiv_p, opMod_p, Int.reduceLT, Int.reduceNeg, Int.reduceAdd, Int.reduceSub, Int.reduceMul, vAnd_eq, vOr_eq, andV_bool, orV_bool, bind_ite, seq_ite, turn_ite, rtOf_ite, rtOf_rt, rtOf_nx, opEq_int, opNe_int, opEq_str, opNe_str, opLt_int, opGt_int, opLe_int, opGe_int, isi_int_none, isi_int_bool, isi_int_int, isi_int_str, isi_int_list, isi_int_tuple, isi_bool_none, isi_bool_bool, isi_bool_int, isi_bool_str, isi_bool_list, isi_bool_tuple, isi_str_none, isi_str_bool, isi_str_int, isi_str_str, isi_str_list, isi_str_tuple, isi_list_none, isi_list_bool, isi_list_int, isi_list_str, isi_list_list, isi_list_tuple, isi_tuple_none, isi_tuple_bool, isi_tuple_int, isi_tuple_str, isi_tuple_list, isi_tuple_tuple, vNot, vIf, fIsN, isNV, isN, fChain_eq, truD, decide_true, decide_false, Bool.not_true, Bool.not_false, decide_eq_true_eq, Int.cast_ofNat_Int, Int.reduceLE, Int.reduceEq, Int.reduceToNat, not_true_eq_false, not_false_eq_true, Bool.true_eq_false, dSet, dSto, stS, dSetM, dMv, dAsg, gN, gT, gCons, gNil, gSubL, dPar, stosP, stoP, fConsP, dExpr, fYes, fIr, dFor, dIt, fItems, itemsOf, fApp, appV, fMt_eq, fMt0_eq, mtS_str, mtS0_str, opS_some, tyName, dSub, subV, isOw, fMut, fMut0, mutV, fExt, extV, Out.bind_ok, Out.bind_exc, Out.bind_stuck, Out.seq_nx, Out.seq_rt, Out.seq_bk, Out.seq_ct, Out.seq_exc, Out.seq_stuck, Out.back_nx, Out.back_rt, Out.back_exc, Out.turn_nx, Out.turn_rt, Out.turn_ct, Out.turn_bk, List.getElem?_cons_zero, List.getElem?_cons_succ, List.set_cons_zero, List.set_cons_succ, List.cons_append, List.nil_append, List.map_cons, List.map_nil, List.replicate, List.length_cons, List.length_nil, if_true, if_false, Bool.false_eq_true, opLen, opAdd, opSub, opIx, Sw_len, Sw_add, Sw_cut, Sw_cps, Its.grab, Its.free, Nat.zero_add, Nat.sub_zero, Nat.reduceAdd, Nat.reduceSub, call1 (is_integer_bool i)]
theorem is_overlap_at_eq (w : List Nat) (a p : Nat) : Gv g_is_overlap_at [dw w, .int a, .int p] (.sh (.bool (decide (a + 2 * p + 1 ≤ w.length) && decide (sub w a (a + p + 1) = sub w (a + p) (a + 2 * p + 1))))) := by
  refine gv_rt ?_
  unfold b_is_overlap_at
  simp only [fVar, fC, fFn, fBin, fIx, fSl, rdSl, opSl, fPart, partV, fNo, fNil, fCons, dArg, argv_sh, argv_fr, argv_bo, argv_sc, argv_fn, fNilD, fConsD, frz_sh, frz_fr, rd_sh, rd_fr, rdS_sh, rdS_fr, rdS_sc, rdS_bo, rdSs_nil', rdSs_sh, rdSs_sc, Option.map_some, rd2_sh, rdI_sh, fLst, fTup, lstV, tupV, fCB, rdC, fIsi, isiV, fCall, dIf, fSeq, fRet, fRetN, fNx, fCt, fBk, leave, fTru, tru, fBool, boolV, tAnd', tOr', tNot', opMul_l, opMul_r, opFdiv_p, opMod_p, Int.reduceLT, Int.reduceNeg, Int.reduceAdd, Int.reduceSub, Int.reduceMul, vAnd_eq, vOr_eq, andV_bool, orV_bool, bind_ite, seq_ite, turn_ite, rtOf_ite, rtOf_rt, rtOf_nx, opEq_int, opNe_int, opEq_str, opNe_str, opLt_int, opGt_int, opLe_int, opGe_int, isi_int_none, isi_int_bool, isi_int_int, isi_int_str, isi_int_list, isi_int_tuple, isi_bool_none, isi_bool_bool, isi_bool_int, isi_bool_str, isi_bool_list, isi_bool_tuple, isi_str_none, isi_str_bool, isi_str_int, isi_str_str, isi_str_list, isi_str_tuple, isi_list_none, isi_list_bool, isi_list_int, isi_list_str, isi_list_list, isi_list_tuple, isi_tuple_none, isi_tuple_bool, isi_tuple_int, isi_tuple_str, isi_tuple_list, isi_tuple_tuple, vNot, vIf, fIsN, isNV, isN, fChain_eq, truD, decide_true, decide_false, Bool.not_true, Bool.not_false, decide_eq_true_eq, Int.cast_ofNat_Int, Int.reduceLE, Int.reduceEq, Int.reduceToNat, not_true_eq_false, not_false_eq_true, Bool.true_eq_false, dSet, dSto, stS, dSetM, dMv, dAsg, gN, gT, gCons, gNil, gSubL, dPar, stosP, stoP, fConsP, dExpr, fYes, fIr, dFor, dIt, fItems, itemsOf, fApp, appV, fMt_eq, fMt0_eq, mtS_str, mtS0_str, opS_some, tyName, dSub, subV, isOw, fMut, fMut0, mutV, fExt, extV, Out.bind_ok, Out.bind_exc, Out.bind_stuck, Out.seq_nx, Out.seq_rt, Out.seq_bk, Out.seq_ct, Out.seq_exc, Out.seq_stuck, Out.back_nx, Out.back_rt, Out.back_exc, Out.turn_nx, Out.turn_rt, Out.turn_ct, Out.turn_bk, List.getElem?_cons_zero, List.getElem?_cons_succ, List.set_cons_zero, List.set_cons_succ, List.cons_append, List.nil_append, List.map_cons, List.map_nil, List.replicate, List.length_cons, List.length_nil, if_true, if_false, Bool.false_eq_true, opLen, opAdd, opSub, opIx, Sw_len, Sw_add, Sw_cut, Sw_cps, Its.grab, Its.free, Nat.zero_add, Nat.sub_zero, Nat.reduceAdd, Nat.reduceSub]
  have e1 : (a : Int) + 2 * p + 1 - p = ((a + p + 1 : Nat) : Int) := by omega
  have e2 : (a : Int) + 2 * p + 1 = ((a + 2 * p + 1 : Nat) : Int) := by omega
  have e3 : (a : Int) + p = ((a + p : Nat) : Int) := by omega
  rw [e1, e2, e3, cut_nn, cut_nn]
  by_cases h : a + 2 * p + 1 ≤ w.length
  · have h' : ((a + 2 * p + 1 : Nat) : Int) ≤ w.length := by omega
    simp only [h, h', decide_true, if_true, Bool.true_and]
  · have h' : ¬ ((a + 2 * p + 1 : Nat) : Int) ≤ w.length := by omega
    simp only [h, h', decide_false, Bool.false_eq_true, if_false, Bool.false_and]
theorem in_abc {c : Nat} {ρ : DL.Env} (hc : c = 97 ∨ c = 98) : opIn false (dw [c]) (dw [97, 98]) ρ = .ok (.sh (.bool true)) ρ := by
  have e : ∀ x y : Str, opIn false (.str x) (.str y) ρ = .ok (.sh (.bool (false != strIn x y))) ρ := fun _ _ => rfl
  rw [e]
  rcases hc with rfl | rfl
  · rw [show strIn (Sw [97]) (Sw [97, 98]) = true by decide +kernel]; rfl
  · rw [show strIn (Sw [98]) (Sw [97, 98]) = true by decide +kernel]; rfl
theorem cut_abc : cutL [97, 98, 99] none (some (2 : Int)) = [97, 98] := by decide +kernel
theorem sizeL : (1000000 : Nat) ≤ sizeLine := by rw [sizeLine_eq]; decide
theorem bools_true (ds : List D) : boolsOf (ds.map fun _ => (.bool true : D)) = some (ds.map fun _ => true) := by
  induction ds with
  | nil => rfl
  | cons d ds ih => simp only [List.map_cons, boolsOf, ih, Option.map_some]
theorem all_true (ds : List D) : (ds.map fun _ => true).all id = true := by simp
theorem over_ab {w : List Nat} (h : AB w) (hl : w.length ≤ 1000) : Gv g_over [dw w, .int 2] (.sh (.bool true)) := by
  refine gv_rt ?_
  unfold b_over
  simp only [fVar, fC, fFn, fBin, fIx, fSl, rdSl, opSl, fPart, partV, fNo, fNil, fCons, dArg, argv_sh, argv_fr, argv_bo, argv_sc, argv_fn, fNilD, fConsD, frz_sh, frz_fr, rd_sh, rd_fr, rdS_sh, rdS_fr, rdS_sc, rdS_bo, rdSs_nil', rdSs_sh, rdSs_sc, Option.map_some, rd2_sh, rdI_sh, fLst, fTup, lstV, tupV, fCB, rdC, fIsi, isiV, fCall, dIf, fSeq, fRet, fRetN, fNx, fCt, fBk, leave, fTru, tru, fBool, boolV, tAnd', tOr', tNot', opMul_l, opMul_r, opFdiv_p, opMod_p, Int.reduceLT, Int.reduceNeg, Int.reduceAdd, Int.reduceSub, Int.reduceMul, vAnd_eq, vOr_eq, andV_bool, orV_bool, bind_ite, seq_ite, turn_ite, rtOf_ite, rtOf_rt, rtOf_nx, opEq_int, opNe_int, opEq_str, opNe_str, opLt_int, opGt_int, opLe_int, opGe_int, isi_int_none, isi_int_bool, isi_int_int, isi_int_str, isi_int_list, isi_int_tuple, isi_bool_none, isi_bool_bool, isi_bool_int, isi_bool_str, isi_bool_list, isi_bool_tuple, isi_str_none, isi_str_bool, isi_str_int, isi_str_str, isi_str_list, isi_str_tuple, isi_list_none, isi_list_bool, isi_list_int, isi_list_str, isi_list_list, isi_list_tuple, isi_tuple_none, isi_tuple_bool, isi_tuple_int, isi_tuple_str, isi_tuple_list, isi_tuple_tuple, vNot, vIf, fIsN, isNV, isN, fChain_eq, truD, decide_true, decide_false, Bool.not_true, Bool.not_false, decide_eq_true_eq, Int.cast_ofNat_Int, Int.reduceLE, Int.reduceEq, Int.reduceToNat, not_true_eq_false, not_false_eq_true, Bool.true_eq_false, dSet, dSto, stS, dSetM, dMv, dAsg, gN, gT, gCons, gNil, gSubL, dPar, stosP, stoP, fConsP, dExpr, fYes, fIr, dFor, dIt, fItems, itemsOf, fApp, appV, fMt_eq, fMt0_eq, mtS_str, mtS0_str, opS_some, tyName, dSub, subV, isOw, fMut, fMut0, mutV, fExt, extV, Out.bind_ok, Out.bind_exc, Out.bind_stuck, Out.seq_nx, Out.seq_rt, Out.seq_bk, Out.seq_ct, Out.seq_exc, Out.seq_stuck, Out.back_nx, Out.back_rt, Out.back_exc, Out.turn_nx, Out.turn_rt, Out.turn_ct, Out.turn_bk, List.getElem?_cons_zero, List.getElem?_cons_succ, List.set_cons_zero, List.set_cons_succ, List.cons_append, List.nil_append, List.map_cons, List.map_nil, List.replicate, List.length_cons, List.length_nil, if_true, if_false, Bool.false_eq_true, opLen, opAdd, opSub, opIx, Sw_len, Sw_add, Sw_cut, Sw_cps, Its.grab, Its.free, Nat.zero_add, Nat.sub_zero, Nat.reduceAdd, Nat.reduceSub]
  rw [fLc_map (ds := w.map sign) (fun _ => .bool true) ?_ ?_ ?_ ?_]
  · simp only [fVar, fC, fFn, fBin, fIx, fSl, rdSl, opSl, fPart, partV, fNo, fNil, fCons, dArg, argv_sh, argv_fr, argv_bo, argv_sc, argv_fn, fNilD, fConsD, frz_sh, frz_fr, rd_sh, rd_fr, rdS_sh, rdS_fr, rdS_sc, rdS_bo, rdSs_nil', rdSs_sh, rdSs_sc, Option.map_some, rd2_sh, rdI_sh, fLst, fTup, lstV, tupV, fCB, rdC, fIsi, isiV, fCall, dIf, fSeq, fRet, fRetN, fNx, fCt, fBk, leave, fTru, tru, fBool, boolV, tAnd', tOr', tNot', opMul_l, opMul_r, opFdiv_p, opMod_p, Int.reduceLT, Int.reduceNeg, Int.reduceAdd, Int.reduceSub, Int.reduceMul, vAnd_eq, vOr_eq, andV_bool, orV_bool, bind_ite, seq_ite, turn_ite, rtOf_ite, rtOf_rt, rtOf_nx, opEq_int, opNe_int, opEq_str, opNe_str, opLt_int, opGt_int, opLe_int, opGe_int, isi_int_none, isi_int_bool, isi_int_int, isi_int_str, isi_int_list, isi_int_tuple, isi_bool_none, isi_bool_bool, isi_bool_int, isi_bool_str, isi_bool_list, isi_bool_tuple, isi_str_none, isi_str_bool, isi_str_int, isi_str_str, isi_str_list, isi_str_tuple, isi_list_none, isi_list_bool, isi_list_int, isi_list_str, isi_list_list, isi_list_tuple, isi_tuple_none, isi_tuple_bool, isi_tuple_int, isi_tuple_str, isi_tuple_list, isi_tuple_tuple, vNot, vIf, fIsN, isNV, isN, fChain_eq, truD, decide_true, decide_false, Bool.not_true, Bool.not_false, decide_eq_true_eq, Int.cast_ofNat_Int, Int.reduceLE, Int.reduceEq, Int.reduceToNat, not_true_eq_false, not_false_eq_true, Bool.true_eq_false, dSet, dSto, stS, dSetM, dMv, dAsg, gN, gT, gCons, gNil, gSubL, dPar, stosP, stoP, fConsP, dExpr, fYes, fIr, dFor, dIt, fItems, itemsOf, fApp, appV, fMt_eq, fMt0_eq, mtS_str, mtS0_str, opS_some, tyName, dSub, subV, isOw, fMut, fMut0, mutV, fExt, extV, Out.bind_ok, Out.bind_exc, Out.bind_stuck, Out.seq_nx, Out.seq_rt, Out.seq_bk, Out.seq_ct, Out.seq_exc, Out.seq_stuck, Out.back_nx, Out.back_rt, Out.back_exc, Out.turn_nx, Out.turn_rt, Out.turn_ct, Out.turn_bk, List.getElem?_cons_zero, List.getElem?_cons_succ, List.set_cons_zero, List.set_cons_succ, List.cons_append, List.nil_append, List.map_cons, List.map_nil, List.replicate, List.length_cons, List.length_nil, if_true, if_false, Bool.false_eq_true, opLen, opAdd, opSub, opIx, Sw_len, Sw_add, Sw_cut, Sw_cps, Its.grab, Its.free, Nat.zero_add, Nat.sub_zero, Nat.reduceAdd, Nat.reduceSub, opAll, bools_true, all_true]
  · rfl
  · rfl
  · have := sizeL; simp; omega
  · intro d hd
    obtain ⟨c, hc, rfl⟩ := List.mem_map.mp hd
    refine ⟨[some (.sh (dw w)), some (.sh (.int 2)), some (.sh (sign c))], rfl, rfl, ?_⟩
    simp only [fVar, fC, fFn, fBin, fIx, fSl, rdSl, opSl, fPart, partV, fNo, fNil, fCons, dArg, argv_sh, argv_fr, argv_bo, argv_sc, argv_fn, fNilD, fConsD, frz_sh, frz_fr, rd_sh, rd_fr, rdS_sh, rdS_fr, rdS_sc, rdS_bo, rdSs_nil', rdSs_sh, rdSs_sc, Option.map_some, rd2_sh, rdI_sh, fLst, fTup, lstV, tupV, fCB, rdC, fIsi, isiV, fCall, dIf, fSeq, fRet, fRetN, fNx, fCt, fBk, leave, fTru, tru, fBool, boolV, tAnd', tOr', tNot', opMul_l, opMul_r, opFdiv_p, opMod_p, Int.reduceLT, Int.reduceNeg, Int.reduceAdd, Int.reduceSub, Int.reduceMul, vAnd_eq, vOr_eq, andV_bool, orV_bool, bind_ite, seq_ite, turn_ite, rtOf_ite, rtOf_rt, rtOf_nx, opEq_int, opNe_int, opEq_str, opNe_str, opLt_int, opGt_int, opLe_int, opGe_int, isi_int_none, isi_int_bool, isi_int_int, isi_int_str, isi_int_list, isi_int_tuple, isi_bool_none, isi_bool_bool, isi_bool_int, isi_bool_str, isi_bool_list, isi_bool_tuple, isi_str_none, isi_str_bool, isi_str_int, isi_str_str, isi_str_list, isi_str_tuple, isi_list_none, isi_list_bool, isi_list_int, isi_list_str, isi_list_list, isi_list_tuple, isi_tuple_none, isi_tuple_bool, isi_tuple_int, isi_tuple_str, isi_tuple_list, isi_tuple_tuple, vNot, vIf, fIsN, isNV, isN, fChain_eq, truD, decide_true, decide_false, Bool.not_true, Bool.not_false, decide_eq_true_eq, Int.cast_ofNat_Int, Int.reduceLE, Int.reduceEq, Int.reduceToNat, not_true_eq_false, not_false_eq_true, Bool.true_eq_false, dSet, dSto, stS, dSetM, dMv, dAsg, gN, gT, gCons, gNil, gSubL, dPar, stosP, stoP, fConsP, dExpr, fYes, fIr, dFor, dIt, fItems, itemsOf, fApp, appV, fMt_eq, fMt0_eq, mtS_str, mtS0_str, opS_some, tyName, dSub, subV, isOw, fMut, fMut0, mutV, fExt, extV, Out.bind_ok, Out.bind_exc, Out.bind_stuck, Out.seq_nx, Out.seq_rt, Out.seq_bk, Out.seq_ct, Out.seq_exc, Out.seq_stuck, Out.back_nx, Out.back_rt, Out.back_exc, Out.turn_nx, Out.turn_rt, Out.turn_ct, Out.turn_bk, List.getElem?_cons_zero, List.getElem?_cons_succ, List.set_cons_zero, List.set_cons_succ, List.cons_append, List.nil_append, List.map_cons, List.map_nil, List.replicate, List.length_cons, List.length_nil, if_true, if_false, Bool.false_eq_true, opLen, opAdd, opSub, opIx, Sw_len, Sw_add, Sw_cut, Sw_cps, Its.grab, Its.free, Nat.zero_add, Nat.sub_zero, Nat.reduceAdd, Nat.reduceSub, lit_abc, sign_dw, cut_abc]
    rw [in_abc (h c hc)]
    rfl
theorem letters_of_im (u v : List Nat) : Gv g_letters_of [imD u v] (.sh (.int 2)) := by
  refine gv_rt ?_
  unfold b_letters_of imD
  simp only [fVar, fC, fFn, fBin, fIx, fSl, rdSl, opSl, fPart, partV, fNo, fNil, fCons, dArg, argv_sh, argv_fr, argv_bo, argv_sc, argv_fn, fNilD, fConsD, frz_sh, frz_fr, rd_sh, rd_fr, rdS_sh, rdS_fr, rdS_sc, rdS_bo, rdSs_nil', rdSs_sh, rdSs_sc, Option.map_some, rd2_sh, rdI_sh, fLst, fTup, lstV, tupV, fCB, rdC, fIsi, isiV, fCall, dIf, fSeq, fRet, fRetN, fNx, fCt, fBk, leave, fTru, tru, fBool, boolV, tAnd', tOr', tNot', opMul_l, opMul_r, opFdiv_p, opMod_p, Int.reduceLT, Int.reduceNeg, Int.reduceAdd, Int.reduceSub, Int.reduceMul, vAnd_eq, vOr_eq, andV_bool, orV_bool, bind_ite, seq_ite, turn_ite, rtOf_ite, rtOf_rt, rtOf_nx, opEq_int, opNe_int, opEq_str, opNe_str, opLt_int, opGt_int, opLe_int, opGe_int, isi_int_none, isi_int_bool, isi_int_int, isi_int_str, isi_int_list, isi_int_tuple, isi_bool_none, isi_bool_bool, isi_bool_int, isi_bool_str, isi_bool_list, isi_bool_tuple, isi_str_none, isi_str_bool, isi_str_int, isi_str_str, isi_str_list, isi_str_tuple, isi_list_none, isi_list_bool, isi_list_int, isi_list_str, isi_list_list, isi_list_tuple, isi_tuple_none, isi_tuple_bool, isi_tuple_int, isi_tuple_str, isi_tuple_list, isi_tuple_tuple, vNot, vIf, fIsN, isNV, isN, fChain_eq, truD, decide_true, decide_false, Bool.not_true, Bool.not_false, decide_eq_true_eq, Int.cast_ofNat_Int, Int.reduceLE, Int.reduceEq, Int.reduceToNat, not_true_eq_false, not_false_eq_true, Bool.true_eq_false, dSet, dSto, stS, dSetM, dMv, dAsg, gN, gT, gCons, gNil, gSubL, dPar, stosP, stoP, fConsP, dExpr, fYes, fIr, dFor, dIt, fItems, itemsOf, fApp, appV, fMt_eq, fMt0_eq, mtS_str, mtS0_str, opS_some, tyName, dSub, subV, isOw, fMut, fMut0, mutV, fExt, extV, Out.bind_ok, Out.bind_exc, Out.bind_stuck, Out.seq_nx, Out.seq_rt, Out.seq_bk, Out.seq_ct, Out.seq_exc, Out.seq_stuck, Out.back_nx, Out.back_rt, Out.back_exc, Out.turn_nx, Out.turn_rt, Out.turn_ct, Out.turn_bk, List.getElem?_cons_zero, List.getElem?_cons_succ, List.set_cons_zero, List.set_cons_succ, List.cons_append, List.nil_append, List.map_cons, List.map_nil, List.replicate, List.length_cons, List.length_nil, if_true, if_false, Bool.false_eq_true, opLen, opAdd, opSub, opIx, Sw_len, Sw_add, Sw_cut, Sw_cps, Its.grab, Its.free, Nat.zero_add, Nat.sub_zero, Nat.reduceAdd, Nat.reduceSub, atI_one]
theorem images_right {u v : List Nat} (hu : AB u) (hv : AB v) (l1 : 1 ≤ u.length) (l2 : u.length ≤ 12) (l3 : 1 ≤ v.length) (l4 : v.length ≤ 12) : Gv g_images_are_right [imD u v] (.sh (.bool true)) := by
  refine gv_rt ?_
  unfold b_images_are_right imD
  simp only [fVar, fC, fFn, fBin, fIx, fSl, rdSl, opSl, fPart, partV, fNo, fNil, fCons, dArg, argv_sh, argv_fr, argv_bo, argv_sc, argv_fn, fNilD, fConsD, frz_sh, frz_fr, rd_sh, rd_fr, rdS_sh, rdS_fr, rdS_sc, rdS_bo, rdSs_nil', rdSs_sh, rdSs_sc, Option.map_some, rd2_sh, rdI_sh, fLst, fTup, lstV, tupV, fCB, rdC, fIsi, isiV, fCall, dIf, fSeq, fRet, fRetN, fNx, fCt, fBk, leave, fTru, tru, fBool, boolV, tAnd', tOr', tNot', opMul_l, opMul_r, opFdiv_p, opMod_p, Int.reduceLT, Int.reduceNeg, Int.reduceAdd, Int.reduceSub, Int.reduceMul, vAnd_eq, vOr_eq, andV_bool, orV_bool, bind_ite, seq_ite, turn_ite, rtOf_ite, rtOf_rt, rtOf_nx, opEq_int, opNe_int, opEq_str, opNe_str, opLt_int, opGt_int, opLe_int, opGe_int, isi_int_none, isi_int_bool, isi_int_int, isi_int_str, isi_int_list, isi_int_tuple, isi_bool_none, isi_bool_bool, isi_bool_int, isi_bool_str, isi_bool_list, isi_bool_tuple, isi_str_none, isi_str_bool, isi_str_int, isi_str_str, isi_str_list, isi_str_tuple, isi_list_none, isi_list_bool, isi_list_int, isi_list_str, isi_list_list, isi_list_tuple, isi_tuple_none, isi_tuple_bool, isi_tuple_int, isi_tuple_str, isi_tuple_list, isi_tuple_tuple, vNot, vIf, fIsN, isNV, isN, fChain_eq, truD, decide_true, decide_false, Bool.not_true, Bool.not_false, decide_eq_true_eq, Int.cast_ofNat_Int, Int.reduceLE, Int.reduceEq, Int.reduceToNat, not_true_eq_false, not_false_eq_true, Bool.true_eq_false, dSet, dSto, stS, dSetM, dMv, dAsg, gN, gT, gCons, gNil, gSubL, dPar, stosP, stoP, fConsP, dExpr, fYes, fIr, dFor, dIt, fItems, itemsOf, fApp, appV, fMt_eq, fMt0_eq, mtS_str, mtS0_str, opS_some, tyName, dSub, subV, isOw, fMut, fMut0, mutV, fExt, extV, Out.bind_ok, Out.bind_exc, Out.bind_stuck, Out.seq_nx, Out.seq_rt, Out.seq_bk, Out.seq_ct, Out.seq_exc, Out.seq_stuck, Out.back_nx, Out.back_rt, Out.back_exc, Out.turn_nx, Out.turn_rt, Out.turn_ct, Out.turn_bk, List.getElem?_cons_zero, List.getElem?_cons_succ, List.set_cons_zero, List.set_cons_succ, List.cons_append, List.nil_append, List.map_cons, List.map_nil, List.replicate, List.length_cons, List.length_nil, if_true, if_false, Bool.false_eq_true, opLen, opAdd, opSub, opIx, Sw_len, Sw_add, Sw_cut, Sw_cps, Its.grab, Its.free, Nat.zero_add, Nat.sub_zero, Nat.reduceAdd, Nat.reduceSub, atI_one, atI_zero, lit_images, lit_abc]
  rw [fLc_map (ds := [dw u, dw v]) (fun _ => .bool true) ?_ ?_ ?_ ?_]
  · simp only [fVar, fC, fFn, fBin, fIx, fSl, rdSl, opSl, fPart, partV, fNo, fNil, fCons, dArg, argv_sh, argv_fr, argv_bo, argv_sc, argv_fn, fNilD, fConsD, frz_sh, frz_fr, rd_sh, rd_fr, rdS_sh, rdS_fr, rdS_sc, rdS_bo, rdSs_nil', rdSs_sh, rdSs_sc, Option.map_some, rd2_sh, rdI_sh, fLst, fTup, lstV, tupV, fCB, rdC, fIsi, isiV, fCall, dIf, fSeq, fRet, fRetN, fNx, fCt, fBk, leave, fTru, tru, fBool, boolV, tAnd', tOr', tNot', opMul_l, opMul_r, opFdiv_p, opMod_p, Int.reduceLT, Int.reduceNeg, Int.reduceAdd, Int.reduceSub, Int.reduceMul, vAnd_eq, vOr_eq, andV_bool, orV_bool, bind_ite, seq_ite, turn_ite, rtOf_ite, rtOf_rt, rtOf_nx, opEq_int, opNe_int, opEq_str, opNe_str, opLt_int, opGt_int, opLe_int, opGe_int, isi_int_none, isi_int_bool, isi_int_int, isi_int_str, isi_int_list, isi_int_tuple, isi_bool_none, isi_bool_bool, isi_bool_int, isi_bool_str, isi_bool_list, isi_bool_tuple, isi_str_none, isi_str_bool, isi_str_int, isi_str_str, isi_str_list, isi_str_tuple, isi_list_none, isi_list_bool, isi_list_int, isi_list_str, isi_list_list, isi_list_tuple, isi_tuple_none, isi_tuple_bool, isi_tuple_int, isi_tuple_str, isi_tuple_list, isi_tuple_tuple, vNot, vIf, fIsN, isNV, isN, fChain_eq, truD, decide_true, decide_false, Bool.not_true, Bool.not_false, decide_eq_true_eq, Int.cast_ofNat_Int, Int.reduceLE, Int.reduceEq, Int.reduceToNat, not_true_eq_false, not_false_eq_true, Bool.true_eq_false, dSet, dSto, stS, dSetM, dMv, dAsg, gN, gT, gCons, gNil, gSubL, dPar, stosP, stoP, fConsP, dExpr, fYes, fIr, dFor, dIt, fItems, itemsOf, fApp, appV, fMt_eq, fMt0_eq, mtS_str, mtS0_str, opS_some, tyName, dSub, subV, isOw, fMut, fMut0, mutV, fExt, extV, Out.bind_ok, Out.bind_exc, Out.bind_stuck, Out.seq_nx, Out.seq_rt, Out.seq_bk, Out.seq_ct, Out.seq_exc, Out.seq_stuck, Out.back_nx, Out.back_rt, Out.back_exc, Out.turn_nx, Out.turn_rt, Out.turn_ct, Out.turn_bk, List.getElem?_cons_zero, List.getElem?_cons_succ, List.set_cons_zero, List.set_cons_succ, List.cons_append, List.nil_append, List.map_cons, List.map_nil, List.replicate, List.length_cons, List.length_nil, if_true, if_false, Bool.false_eq_true, opLen, opAdd, opSub, opIx, Sw_len, Sw_add, Sw_cut, Sw_cps, Its.grab, Its.free, Nat.zero_add, Nat.sub_zero, Nat.reduceAdd, Nat.reduceSub, opAll, boolsOf]
    rfl
  · simp only [fVar, fC, fFn, fBin, fIx, fSl, rdSl, opSl, fPart, partV, fNo, fNil, fCons, dArg, argv_sh, argv_fr, argv_bo, argv_sc, argv_fn, fNilD, fConsD, frz_sh, frz_fr, rd_sh, rd_fr, rdS_sh, rdS_fr, rdS_sc, rdS_bo, rdSs_nil', rdSs_sh, rdSs_sc, Option.map_some, rd2_sh, rdI_sh, fLst, fTup, lstV, tupV, fCB, rdC, fIsi, isiV, fCall, dIf, fSeq, fRet, fRetN, fNx, fCt, fBk, leave, fTru, tru, fBool, boolV, tAnd', tOr', tNot', opMul_l, opMul_r, opFdiv_p, opMod_p, Int.reduceLT, Int.reduceNeg, Int.reduceAdd, Int.reduceSub, Int.reduceMul, vAnd_eq, vOr_eq, andV_bool, orV_bool, bind_ite, seq_ite, turn_ite, rtOf_ite, rtOf_rt, rtOf_nx, opEq_int, opNe_int, opEq_str, opNe_str, opLt_int, opGt_int, opLe_int, opGe_int, isi_int_none, isi_int_bool, isi_int_int, isi_int_str, isi_int_list, isi_int_tuple, isi_bool_none, isi_bool_bool, isi_bool_int, isi_bool_str, isi_bool_list, isi_bool_tuple, isi_str_none, isi_str_bool, isi_str_int, isi_str_str, isi_str_list, isi_str_tuple, isi_list_none, isi_list_bool, isi_list_int, isi_list_str, isi_list_list, isi_list_tuple, isi_tuple_none, isi_tuple_bool, isi_tuple_int, isi_tuple_str, isi_tuple_list, isi_tuple_tuple, vNot, vIf, fIsN, isNV, isN, fChain_eq, truD, decide_true, decide_false, Bool.not_true, Bool.not_false, decide_eq_true_eq, Int.cast_ofNat_Int, Int.reduceLE, Int.reduceEq, Int.reduceToNat, not_true_eq_false, not_false_eq_true, Bool.true_eq_false, dSet, dSto, stS, dSetM, dMv, dAsg, gN, gT, gCons, gNil, gSubL, dPar, stosP, stoP, fConsP, dExpr, fYes, fIr, dFor, dIt, fItems, itemsOf, fApp, appV, fMt_eq, fMt0_eq, mtS_str, mtS0_str, opS_some, tyName, dSub, subV, isOw, fMut, fMut0, mutV, fExt, extV, Out.bind_ok, Out.bind_exc, Out.bind_stuck, Out.seq_nx, Out.seq_rt, Out.seq_bk, Out.seq_ct, Out.seq_exc, Out.seq_stuck, Out.back_nx, Out.back_rt, Out.back_exc, Out.turn_nx, Out.turn_rt, Out.turn_ct, Out.turn_bk, List.getElem?_cons_zero, List.getElem?_cons_succ, List.set_cons_zero, List.set_cons_succ, List.cons_append, List.nil_append, List.map_cons, List.map_nil, List.replicate, List.length_cons, List.length_nil, if_true, if_false, Bool.false_eq_true, opLen, opAdd, opSub, opIx, Sw_len, Sw_add, Sw_cut, Sw_cps, Its.grab, Its.free, Nat.zero_add, Nat.sub_zero, Nat.reduceAdd, Nat.reduceSub, atI_one]
  · rfl
  · have := sizeL; simp; omega
  · intro d hd
    have key : ∀ w, AB w → 1 ≤ w.length → w.length ≤ 12 → ∃ ρa, gN 1 (dw w) (wipeE [some (SV.sh (PyData.tuple [IMG, PyData.tuple [dw u, dw v]])), none] [1]) = some ρa ∧ wipeE ρa [1] = wipeE [some (SV.sh (PyData.tuple [IMG, PyData.tuple [dw u, dw v]])), none] [1] ∧
        ((vAnd (fCall 2 g_over (fCons (fVar 1) (fCons (fCB opLen (fCons (fIx (fVar 0) (fC (PyData.int 1))) fNil)) fNil))) (fChain opLe opLe (fC (PyData.int 1)) (fCB opLen (fCons (fVar 1) fNil)) (fC (PyData.int 12)))) ρa).bind frz = .ok (.bool true) ρa := fun w hw h1 h2 => by
      refine ⟨[some (.sh (.tuple [IMG, .tuple [dw u, dw v]])), some (.sh (dw w))], rfl, rfl, ?_⟩
      have h1' : (1 : Int) ≤ w.length := by omega
      have h2' : (w.length : Int) ≤ 12 := by omega
      simp only [fVar, fC, fFn, fBin, fIx, fSl, rdSl, opSl, fPart, partV, fNo, fNil, fCons, dArg, argv_sh, argv_fr, argv_bo, argv_sc, argv_fn, fNilD, fConsD, frz_sh, frz_fr, rd_sh, rd_fr, rdS_sh, rdS_fr, rdS_sc, rdS_bo, rdSs_nil', rdSs_sh, rdSs_sc, Option.map_some, rd2_sh, rdI_sh, fLst, fTup, lstV, tupV, fCB, rdC, fIsi, isiV, fCall, dIf, fSeq, fRet, fRetN, fNx, fCt, fBk, leave, fTru, tru, fBool, boolV, tAnd', tOr', tNot', opMul_l, opMul_r, opFdiv_p, opMod_p, Int.reduceLT, Int.reduceNeg, Int.reduceAdd, Int.reduceSub, Int.reduceMul, vAnd_eq, vOr_eq, andV_bool, orV_bool, bind_ite, seq_ite, turn_ite, rtOf_ite, rtOf_rt, rtOf_nx, opEq_int, opNe_int, opEq_str, opNe_str, opLt_int, opGt_int, opLe_int, opGe_int, isi_int_none, isi_int_bool, isi_int_int, isi_int_str, isi_int_list, isi_int_tuple, isi_bool_none, isi_bool_bool, isi_bool_int, isi_bool_str, isi_bool_list, isi_bool_tuple, isi_str_none, isi_str_bool, isi_str_int, isi_str_str, isi_str_list, isi_str_tuple, isi_list_none, isi_list_bool, isi_list_int, isi_list_str, isi_list_list, isi_list_tuple, isi_tuple_none, isi_tuple_bool, isi_tuple_int, isi_tuple_str, isi_tuple_list, isi_tuple_tuple, vNot, vIf, fIsN, isNV, isN, fChain_eq, truD, decide_true, decide_false, Bool.not_true, Bool.not_false, decide_eq_true_eq, Int.cast_ofNat_Int, Int.reduceLE, Int.reduceEq, Int.reduceToNat, not_true_eq_false, not_false_eq_true, Bool.true_eq_false, dSet, dSto, stS, dSetM, dMv, dAsg, gN, gT, gCons, gNil, gSubL, dPar, stosP, stoP, fConsP, dExpr, fYes, fIr, dFor, dIt, fItems, itemsOf, fApp, appV, fMt_eq, fMt0_eq, mtS_str, mtS0_str, opS_some, tyName, dSub, subV, isOw, fMut, fMut0, mutV, fExt, extV, Out.bind_ok, Out.bind_exc, Out.bind_stuck, Out.seq_nx, Out.seq_rt, Out.seq_bk, Out.seq_ct, Out.seq_exc, Out.seq_stuck, Out.back_nx, Out.back_rt, Out.back_exc, Out.turn_nx, Out.turn_rt, Out.turn_ct, Out.turn_bk, List.getElem?_cons_zero, List.getElem?_cons_succ, List.set_cons_zero, List.set_cons_succ, List.cons_append, List.nil_append, List.map_cons, List.map_nil, List.replicate, List.length_cons, List.length_nil, if_true, if_false, Bool.false_eq_true, opLen, opAdd, opSub, opIx, Sw_len, Sw_add, Sw_cut, Sw_cps, Its.grab, Its.free, Nat.zero_add, Nat.sub_zero, Nat.reduceAdd, Nat.reduceSub, atI_one, call2 (over_ab hw (by omega)), h1', h2']
    rcases List.mem_cons.mp hd with rfl | hd
    · exact key u hu l1 l2
    · rcases List.mem_cons.mp hd with rfl | hd
      · exact key v hv l3 l4
      · cases hd
/-- pairs of images -/
def Ok (u v : List Nat) : Prop := AB u ∧ AB v ∧ 1 ≤ u.length ∧ u.length ≤ 12 ∧ 1 ≤ v.length ∧ v.length ≤ 12
theorem check_images_ok {u v : List Nat} (h : Ok u v) : Gv g_check_images [imD u v] (.sh .none) := by
  refine gv_rt ?_
  unfold b_check_images
  obtain ⟨h1, h2, h3, h4, h5, h6⟩ := h
  simp only [fVar, fC, fFn, fBin, fIx, fSl, rdSl, opSl, fPart, partV, fNo, fNil, fCons, dArg, argv_sh, argv_fr, argv_bo, argv_sc, argv_fn, fNilD, fConsD, frz_sh, frz_fr, rd_sh, rd_fr, rdS_sh, rdS_fr, rdS_sc, rdS_bo, rdSs_nil', rdSs_sh, rdSs_sc, Option.map_some, rd2_sh, rdI_sh, fLst, fTup, lstV, tupV, fCB, rdC, fIsi, isiV, fCall, dIf, fSeq, fRet, fRetN, fNx, fCt, fBk, leave, fTru, tru, fBool, boolV, tAnd', tOr', tNot', opMul_l, opMul_r, opFdiv_p, opMod_p, Int.reduceLT, Int.reduceNeg, Int.reduceAdd, Int.reduceSub, Int.reduceMul, vAnd_eq, vOr_eq, andV_bool, orV_bool, bind_ite, seq_ite, turn_ite, rtOf_ite, rtOf_rt, rtOf_nx, opEq_int, opNe_int, opEq_str, opNe_str, opLt_int, opGt_int, opLe_int, opGe_int, isi_int_none, isi_int_bool, isi_int_int, isi_int_str, isi_int_list, isi_int_tuple, isi_bool_none, isi_bool_bool, isi_bool_int, isi_bool_str, isi_bool_list, isi_bool_tuple, isi_str_none, isi_str_bool, isi_str_int, isi_str_str, isi_str_list, isi_str_tuple, isi_list_none, isi_list_bool, isi_list_int, isi_list_str, isi_list_list, isi_list_tuple, isi_tuple_none, isi_tuple_bool, isi_tuple_int, isi_tuple_str, isi_tuple_list, isi_tuple_tuple, vNot, vIf, fIsN, isNV, isN, fChain_eq, truD, decide_true, decide_false, Bool.not_true, Bool.not_false, decide_eq_true_eq, Int.cast_ofNat_Int, Int.reduceLE, Int.reduceEq, Int.reduceToNat, not_true_eq_false, not_false_eq_true, Bool.true_eq_false, dSet, dSto, stS, dSetM, dMv, dAsg, gN, gT, gCons, gNil, gSubL, dPar, stosP, stoP, fConsP, dExpr, fYes, fIr, dFor, dIt, fItems, itemsOf, fApp, appV, fMt_eq, fMt0_eq, mtS_str, mtS0_str, opS_some, tyName, dSub, subV, isOw, fMut, fMut0, mutV, fExt, extV, Out.bind_ok, Out.bind_exc, Out.bind_stuck, Out.seq_nx, Out.seq_rt, Out.seq_bk, Out.seq_ct, Out.seq_exc, Out.seq_stuck, Out.back_nx, Out.back_rt, Out.back_exc, Out.turn_nx, Out.turn_rt, Out.turn_ct, Out.turn_bk, List.getElem?_cons_zero, List.getElem?_cons_succ, List.set_cons_zero, List.set_cons_succ, List.cons_append, List.nil_append, List.map_cons, List.map_nil, List.replicate, List.length_cons, List.length_nil, if_true, if_false, Bool.false_eq_true, opLen, opAdd, opSub, opIx, Sw_len, Sw_add, Sw_cut, Sw_cps, Its.grab, Its.free, Nat.zero_add, Nat.sub_zero, Nat.reduceAdd, Nat.reduceSub, call1 (images_right h1 h2 h3 h4 h5 h6)]
theorem check_two_ok {u v : List Nat} (h : Ok u v) : Gv g_check_two [imD u v] (.sh .none) := by
  refine gv_rt ?_
  unfold b_check_two
  simp only [fVar, fC, fFn, fBin, fIx, fSl, rdSl, opSl, fPart, partV, fNo, fNil, fCons, dArg, argv_sh, argv_fr, argv_bo, argv_sc, argv_fn, fNilD, fConsD, frz_sh, frz_fr, rd_sh, rd_fr, rdS_sh, rdS_fr, rdS_sc, rdS_bo, rdSs_nil', rdSs_sh, rdSs_sc, Option.map_some, rd2_sh, rdI_sh, fLst, fTup, lstV, tupV, fCB, rdC, fIsi, isiV, fCall, dIf, fSeq, fRet, fRetN, fNx, fCt, fBk, leave, fTru, tru, fBool, boolV, tAnd', tOr', tNot', opMul_l, opMul_r, opFdiv_p, opMod_p, Int.reduceLT, Int.reduceNeg, Int.reduceAdd, Int.reduceSub, Int.reduceMul, vAnd_eq, vOr_eq, andV_bool, orV_bool, bind_ite, seq_ite, turn_ite, rtOf_ite, rtOf_rt, rtOf_nx, opEq_int, opNe_int, opEq_str, opNe_str, opLt_int, opGt_int, opLe_int, opGe_int, isi_int_none, isi_int_bool, isi_int_int, isi_int_str, isi_int_list, isi_int_tuple, isi_bool_none, isi_bool_bool, isi_bool_int, isi_bool_str, isi_bool_list, isi_bool_tuple, isi_str_none, isi_str_bool, isi_str_int, isi_str_str, isi_str_list, isi_str_tuple, isi_list_none, isi_list_bool, isi_list_int, isi_list_str, isi_list_list, isi_list_tuple, isi_tuple_none, isi_tuple_bool, isi_tuple_int, isi_tuple_str, isi_tuple_list, isi_tuple_tuple, vNot, vIf, fIsN, isNV, isN, fChain_eq, truD, decide_true, decide_false, Bool.not_true, Bool.not_false, decide_eq_true_eq, Int.cast_ofNat_Int, Int.reduceLE, Int.reduceEq, Int.reduceToNat, not_true_eq_false, not_false_eq_true, Bool.true_eq_false, dSet, dSto, stS, dSetM, dMv, dAsg, gN, gT, gCons, gNil, gSubL, dPar, stosP, stoP, fConsP, dExpr, fYes, fIr, dFor, dIt, fItems, itemsOf, fApp, appV, fMt_eq, fMt0_eq, mtS_str, mtS0_str, opS_some, tyName, dSub, subV, isOw, fMut, fMut0, mutV, fExt, extV, Out.bind_ok, Out.bind_exc, Out.bind_stuck, Out.seq_nx, Out.seq_rt, Out.seq_bk, Out.seq_ct, Out.seq_exc, Out.seq_stuck, Out.back_nx, Out.back_rt, Out.back_exc, Out.turn_nx, Out.turn_rt, Out.turn_ct, Out.turn_bk, List.getElem?_cons_zero, List.getElem?_cons_succ, List.set_cons_zero, List.set_cons_succ, List.cons_append, List.nil_append, List.map_cons, List.map_nil, List.replicate, List.length_cons, List.length_nil, if_true, if_false, Bool.false_eq_true, opLen, opAdd, opSub, opIx, Sw_len, Sw_add, Sw_cut, Sw_cps, Its.grab, Its.free, Nat.zero_add, Nat.sub_zero, Nat.reduceAdd, Nat.reduceSub, call1 (check_images_ok h), call1 (letters_of_im u v)]
/-- the image of a word -/
def img (u v : List Nat) : List Nat → List Nat
  | [] => []
  | c :: w => (if c = 97 then u else v) ++ img u v w
def im1 (u v : List Nat) (c : Nat) : List Nat := if c = 97 then u else v
theorem img_flat (u v : List Nat) : ∀ w, img u v w = (w.map (im1 u v)).flatten
  | [] => rfl
  | c :: w => by simp [img, im1, img_flat u v w]
theorem sidx {c : Nat} {ρ : DL.Env} (hc : c = 97 ∨ c = 98) : opSIndex (dw [97, 98, 99]) [dw [c]] ρ = .ok (.sh (.int (if c = 97 then 0 else 1))) ρ := by
  rcases hc with rfl | rfl
  · have e : Builtin.Str.occurrences (Sw [97, 98, 99]) (Sw [97]) 0 (Sw [97, 98, 99]).length 1 = [0] := by decide +kernel
    simp only [opSIndex, e]; rfl
  · have e : Builtin.Str.occurrences (Sw [97, 98, 99]) (Sw [98]) 0 (Sw [97, 98, 99]).length 1 = [1] := by decide +kernel
    simp only [opSIndex, e]; rfl
theorem img_len {u v : List Nat} (hu : u.length ≤ 100) (hv : v.length ≤ 100) : ∀ w, (img u v w).length ≤ 100 * w.length
  | [] => by simp [img]
  | c :: w => by
    have := img_len hu hv w
    unfold img
    split <;> simp <;> omega
theorem image_of_eq (u v : List Nat) {w : List Nat} (h : AB w) (hu : u.length ≤ 100) (hv : v.length ≤ 100) (hl : w.length ≤ 1000) : Gv g_image_of [imD u v, dw w] (.sh (dw (img u v w))) := by
  refine gv_rt ?_
  unfold b_image_of imD
  simp only [fVar, fC, fFn, fBin, fIx, fSl, rdSl, opSl, fPart, partV, fNo, fNil, fCons, dArg, argv_sh, argv_fr, argv_bo, argv_sc, argv_fn, fNilD, fConsD, frz_sh, frz_fr, rd_sh, rd_fr, rdS_sh, rdS_fr, rdS_sc, rdS_bo, rdSs_nil', rdSs_sh, rdSs_sc, Option.map_some, rd2_sh, rdI_sh, fLst, fTup, lstV, tupV, fCB, rdC, fIsi, isiV, fCall, dIf, fSeq, fRet, fRetN, fNx, fCt, fBk, leave, fTru, tru, fBool, boolV, tAnd', tOr', tNot', opMul_l, opMul_r, opFdiv_p, opMod_p, Int.reduceLT, Int.reduceNeg, Int.reduceAdd, Int.reduceSub, Int.reduceMul, vAnd_eq, vOr_eq, andV_bool, orV_bool, bind_ite, seq_ite, turn_ite, rtOf_ite, rtOf_rt, rtOf_nx, opEq_int, opNe_int, opEq_str, opNe_str, opLt_int, opGt_int, opLe_int, opGe_int, isi_int_none, isi_int_bool, isi_int_int, isi_int_str, isi_int_list, isi_int_tuple, isi_bool_none, isi_bool_bool, isi_bool_int, isi_bool_str, isi_bool_list, isi_bool_tuple, isi_str_none, isi_str_bool, isi_str_int, isi_str_str, isi_str_list, isi_str_tuple, isi_list_none, isi_list_bool, isi_list_int, isi_list_str, isi_list_list, isi_list_tuple, isi_tuple_none, isi_tuple_bool, isi_tuple_int, isi_tuple_str, isi_tuple_list, isi_tuple_tuple, vNot, vIf, fIsN, isNV, isN, fChain_eq, truD, decide_true, decide_false, Bool.not_true, Bool.not_false, decide_eq_true_eq, Int.cast_ofNat_Int, Int.reduceLE, Int.reduceEq, Int.reduceToNat, not_true_eq_false, not_false_eq_true, Bool.true_eq_false, dSet, dSto, stS, dSetM, dMv, dAsg, gN, gT, gCons, gNil, gSubL, dPar, stosP, stoP, fConsP, dExpr, fYes, fIr, dFor, dIt, fItems, itemsOf, fApp, appV, fMt_eq, fMt0_eq, mtS_str, mtS0_str, opS_some, tyName, dSub, subV, isOw, fMut, fMut0, mutV, fExt, extV, Out.bind_ok, Out.bind_exc, Out.bind_stuck, Out.seq_nx, Out.seq_rt, Out.seq_bk, Out.seq_ct, Out.seq_exc, Out.seq_stuck, Out.back_nx, Out.back_rt, Out.back_exc, Out.turn_nx, Out.turn_rt, Out.turn_ct, Out.turn_bk, List.getElem?_cons_zero, List.getElem?_cons_succ, List.set_cons_zero, List.set_cons_succ, List.cons_append, List.nil_append, List.map_cons, List.map_nil, List.replicate, List.length_cons, List.length_nil, if_true, if_false, Bool.false_eq_true, opLen, opAdd, opSub, opIx, Sw_len, Sw_add, Sw_cut, Sw_cps, Its.grab, Its.free, Nat.zero_add, Nat.sub_zero, Nat.reduceAdd, Nat.reduceSub, lit_empty]
  rw [fLc_map (ds := w.map sign) (fun d => match d with | .str x => dw (im1 u v (x.cps.toList.headD 0)) | _ => .none) ?_ ?_ ?_ ?_]
  · have e : (w.map sign).map (fun d => match d with | .str x => dw (im1 u v (x.cps.toList.headD 0)) | _ => PyData.none) = (w.map (im1 u v)).map dw := by
      rw [List.map_map, List.map_map]; rfl
    simp only [fVar, fC, fFn, fBin, fIx, fSl, rdSl, opSl, fPart, partV, fNo, fNil, fCons, dArg, argv_sh, argv_fr, argv_bo, argv_sc, argv_fn, fNilD, fConsD, frz_sh, frz_fr, rd_sh, rd_fr, rdS_sh, rdS_fr, rdS_sc, rdS_bo, rdSs_nil', rdSs_sh, rdSs_sc, Option.map_some, rd2_sh, rdI_sh, fLst, fTup, lstV, tupV, fCB, rdC, fIsi, isiV, fCall, dIf, fSeq, fRet, fRetN, fNx, fCt, fBk, leave, fTru, tru, fBool, boolV, tAnd', tOr', tNot', opMul_l, opMul_r, opFdiv_p, opMod_p, Int.reduceLT, Int.reduceNeg, Int.reduceAdd, Int.reduceSub, Int.reduceMul, vAnd_eq, vOr_eq, andV_bool, orV_bool, bind_ite, seq_ite, turn_ite, rtOf_ite, rtOf_rt, rtOf_nx, opEq_int, opNe_int, opEq_str, opNe_str, opLt_int, opGt_int, opLe_int, opGe_int, isi_int_none, isi_int_bool, isi_int_int, isi_int_str, isi_int_list, isi_int_tuple, isi_bool_none, isi_bool_bool, isi_bool_int, isi_bool_str, isi_bool_list, isi_bool_tuple, isi_str_none, isi_str_bool, isi_str_int, isi_str_str, isi_str_list, isi_str_tuple, isi_list_none, isi_list_bool, isi_list_int, isi_list_str, isi_list_list, isi_list_tuple, isi_tuple_none, isi_tuple_bool, isi_tuple_int, isi_tuple_str, isi_tuple_list, isi_tuple_tuple, vNot, vIf, fIsN, isNV, isN, fChain_eq, truD, decide_true, decide_false, Bool.not_true, Bool.not_false, decide_eq_true_eq, Int.cast_ofNat_Int, Int.reduceLE, Int.reduceEq, Int.reduceToNat, not_true_eq_false, not_false_eq_true, Bool.true_eq_false, dSet, dSto, stS, dSetM, dMv, dAsg, gN, gT, gCons, gNil, gSubL, dPar, stosP, stoP, fConsP, dExpr, fYes, fIr, dFor, dIt, fItems, itemsOf, fApp, appV, fMt_eq, fMt0_eq, mtS_str, mtS0_str, opS_some, tyName, dSub, subV, isOw, fMut, fMut0, mutV, fExt, extV, Out.bind_ok, Out.bind_exc, Out.bind_stuck, Out.seq_nx, Out.seq_rt, Out.seq_bk, Out.seq_ct, Out.seq_exc, Out.seq_stuck, Out.back_nx, Out.back_rt, Out.back_exc, Out.turn_nx, Out.turn_rt, Out.turn_ct, Out.turn_bk, List.getElem?_cons_zero, List.getElem?_cons_succ, List.set_cons_zero, List.set_cons_succ, List.cons_append, List.nil_append, List.map_cons, List.map_nil, List.replicate, List.length_cons, List.length_nil, if_true, if_false, Bool.false_eq_true, opLen, opAdd, opSub, opIx, Sw_len, Sw_add, Sw_cut, Sw_cps, Its.grab, Its.free, Nat.zero_add, Nat.sub_zero, Nat.reduceAdd, Nat.reduceSub, e]
    rw [opJoin_dw _ _ (by rw [← img_flat]; have := img_len hu hv w; omega), ← img_flat]
    simp only [fVar, fC, fFn, fBin, fIx, fSl, rdSl, opSl, fPart, partV, fNo, fNil, fCons, dArg, argv_sh, argv_fr, argv_bo, argv_sc, argv_fn, fNilD, fConsD, frz_sh, frz_fr, rd_sh, rd_fr, rdS_sh, rdS_fr, rdS_sc, rdS_bo, rdSs_nil', rdSs_sh, rdSs_sc, Option.map_some, rd2_sh, rdI_sh, fLst, fTup, lstV, tupV, fCB, rdC, fIsi, isiV, fCall, dIf, fSeq, fRet, fRetN, fNx, fCt, fBk, leave, fTru, tru, fBool, boolV, tAnd', tOr', tNot', opMul_l, opMul_r, opFdiv_p, opMod_p, Int.reduceLT, Int.reduceNeg, Int.reduceAdd, Int.reduceSub, Int.reduceMul, vAnd_eq, vOr_eq, andV_bool, orV_bool, bind_ite, seq_ite, turn_ite, rtOf_ite, rtOf_rt, rtOf_nx, opEq_int, opNe_int, opEq_str, opNe_str, opLt_int, opGt_int, opLe_int, opGe_int, isi_int_none, isi_int_bool, isi_int_int, isi_int_str, isi_int_list, isi_int_tuple, isi_bool_none, isi_bool_bool, isi_bool_int, isi_bool_str, isi_bool_list, isi_bool_tuple, isi_str_none, isi_str_bool, isi_str_int, isi_str_str, isi_str_list, isi_str_tuple, isi_list_none, isi_list_bool, isi_list_int, isi_list_str, isi_list_list, isi_list_tuple, isi_tuple_none, isi_tuple_bool, isi_tuple_int, isi_tuple_str, isi_tuple_list, isi_tuple_tuple, vNot, vIf, fIsN, isNV, isN, fChain_eq, truD, decide_true, decide_false, Bool.not_true, Bool.not_false, decide_eq_true_eq, Int.cast_ofNat_Int, Int.reduceLE, Int.reduceEq, Int.reduceToNat, not_true_eq_false, not_false_eq_true, Bool.true_eq_false, dSet, dSto, stS, dSetM, dMv, dAsg, gN, gT, gCons, gNil, gSubL, dPar, stosP, stoP, fConsP, dExpr, fYes, fIr, dFor, dIt, fItems, itemsOf, fApp, appV, fMt_eq, fMt0_eq, mtS_str, mtS0_str, opS_some, tyName, dSub, subV, isOw, fMut, fMut0, mutV, fExt, extV, Out.bind_ok, Out.bind_exc, Out.bind_stuck, Out.seq_nx, Out.seq_rt, Out.seq_bk, Out.seq_ct, Out.seq_exc, Out.seq_stuck, Out.back_nx, Out.back_rt, Out.back_exc, Out.turn_nx, Out.turn_rt, Out.turn_ct, Out.turn_bk, List.getElem?_cons_zero, List.getElem?_cons_succ, List.set_cons_zero, List.set_cons_succ, List.cons_append, List.nil_append, List.map_cons, List.map_nil, List.replicate, List.length_cons, List.length_nil, if_true, if_false, Bool.false_eq_true, opLen, opAdd, opSub, opIx, Sw_len, Sw_add, Sw_cut, Sw_cps, Its.grab, Its.free, Nat.zero_add, Nat.sub_zero, Nat.reduceAdd, Nat.reduceSub]
  · rfl
  · rfl
  · have := sizeL; simp; omega
  · intro d hd
    obtain ⟨c, hc, rfl⟩ := List.mem_map.mp hd
    refine ⟨[some (.sh (.tuple [IMG, .tuple [dw u, dw v]])), some (.sh (dw w)), some (.sh (sign c))], rfl, rfl, ?_⟩
    simp only [fVar, fC, fFn, fBin, fIx, fSl, rdSl, opSl, fPart, partV, fNo, fNil, fCons, dArg, argv_sh, argv_fr, argv_bo, argv_sc, argv_fn, fNilD, fConsD, frz_sh, frz_fr, rd_sh, rd_fr, rdS_sh, rdS_fr, rdS_sc, rdS_bo, rdSs_nil', rdSs_sh, rdSs_sc, Option.map_some, rd2_sh, rdI_sh, fLst, fTup, lstV, tupV, fCB, rdC, fIsi, isiV, fCall, dIf, fSeq, fRet, fRetN, fNx, fCt, fBk, leave, fTru, tru, fBool, boolV, tAnd', tOr', tNot', opMul_l, opMul_r, opFdiv_p, opMod_p, Int.reduceLT, Int.reduceNeg, Int.reduceAdd, Int.reduceSub, Int.reduceMul, vAnd_eq, vOr_eq, andV_bool, orV_bool, bind_ite, seq_ite, turn_ite, rtOf_ite, rtOf_rt, rtOf_nx, opEq_int, opNe_int, opEq_str, opNe_str, opLt_int, opGt_int, opLe_int, opGe_int, isi_int_none, isi_int_bool, isi_int_int, isi_int_str, isi_int_list, isi_int_tuple, isi_bool_none, isi_bool_bool, isi_bool_int, isi_bool_str, isi_bool_list, isi_bool_tuple, isi_str_none, isi_str_bool, isi_str_int, isi_str_str, isi_str_list, isi_str_tuple, isi_list_none, isi_list_bool, isi_list_int, isi_list_str, isi_list_list, isi_list_tuple, isi_tuple_none, isi_tuple_bool, isi_tuple_int, isi_tuple_str, isi_tuple_list, isi_tuple_tuple, vNot, vIf, fIsN, isNV, isN, fChain_eq, truD, decide_true, decide_false, Bool.not_true, Bool.not_false, decide_eq_true_eq, Int.cast_ofNat_Int, Int.reduceLE, Int.reduceEq, Int.reduceToNat, not_true_eq_false, not_false_eq_true, Bool.true_eq_false, dSet, dSto, stS, dSetM, dMv, dAsg, gN, gT, gCons, gNil, gSubL, dPar, stosP, stoP, fConsP, dExpr, fYes, fIr, dFor, dIt, fItems, itemsOf, fApp, appV, fMt_eq, fMt0_eq, mtS_str, mtS0_str, opS_some, tyName, dSub, subV, isOw, fMut, fMut0, mutV, fExt, extV, Out.bind_ok, Out.bind_exc, Out.bind_stuck, Out.seq_nx, Out.seq_rt, Out.seq_bk, Out.seq_ct, Out.seq_exc, Out.seq_stuck, Out.back_nx, Out.back_rt, Out.back_exc, Out.turn_nx, Out.turn_rt, Out.turn_ct, Out.turn_bk, List.getElem?_cons_zero, List.getElem?_cons_succ, List.set_cons_zero, List.set_cons_succ, List.cons_append, List.nil_append, List.map_cons, List.map_nil, List.replicate, List.length_cons, List.length_nil, if_true, if_false, Bool.false_eq_true, opLen, opAdd, opSub, opIx, Sw_len, Sw_add, Sw_cut, Sw_cps, Its.grab, Its.free, Nat.zero_add, Nat.sub_zero, Nat.reduceAdd, Nat.reduceSub, lit_abc, sign_dw, atI_one, sidx (h c hc)]
    rcases h c hc with rfl | rfl
    · rfl
    · rfl
/-! ### overlaps -/
def ovAt (w : List Nat) (a p : Nat) : Bool := decide (a + 2 * p + 1 ≤ w.length) && decide (sub w a (a + p + 1) = sub w (a + p) (a + 2 * p + 1))
def pairD (a p : Nat) : D := .tuple [.int a, .int p]
end K87
namespace K87
open PySem DL
/-- the program's looks: the first overlap, starts first -/
def ovF (w : List Nat) : Option (Nat × Nat) := (List.range' 0 w.length).findSome? fun a => (List.range' 1 (w.length / 2)).findSome? fun p => if ovAt w a p = true then some (a, p) else none
def optD : Option (Nat × Nat) → D
  | some (a, p) => pairD a p
  | none => .none
def natD (p : Nat) : D := .int (p : Int)
theorem find_map {α β γ : Type} (g : β → γ) (f : α → Option β) : ∀ xs : List α, xs.findSome? (fun x => (f x).map g) = (xs.findSome? f).map g
  | [] => rfl
  | x :: xs => by
    rw [List.findSome?_cons, List.findSome?_cons, find_map g f xs]
    cases f x <;> rfl
def pairE (r : Nat × Nat) : EV := .sh (pairD r.1 r.2)
theorem first_at_eq {w : List Nat} (hl : w.length ≤ 1000) : GvS g_first_at [.sh (dw w), .fn nm_is_overlap_at] (.sh (optD (ovF w))) := by
  refine gvs_rt ?_
  unfold b_first_at
  let R : DL.Env → Prop := fun ρ => ∃ m1 m2 : Option D, ρ = [some (.sh (dw w)), some (.fn nm_is_overlap_at), m1.map .sh, m2.map .sh]
  simp only [fSeq]
  refine Exists.elim (dFor_look (ρ := [some (SV.sh (dw w)), some (SV.fn nm_is_overlap_at), none, none]) (g := gN 2) (fi := (fIr fRng1 (fCons (fCB opLen (fCons (fVar 0) fNil)) fNil)))
    (fb := (fSeq (dFor (fIr fRng2 (fCons (fC (PyData.int 1)) (fCons (fBin opAdd (fBin opFdiv (fCB opLen (fCons (fVar 0) fNil)) (fC (PyData.int 2))) (fC (PyData.int 1))) fNil))) (gN 3)
                    (fSeq (dIf (fTru (fCallV 1 [(nm_is_overlap_at, 3, g_is_overlap_at)] (fCons (fVar 0) (fCons (fVar 2) (fCons (fVar 3) fNil))))) (fSeq (fRet (fTup (fConsD (fVar 2) (fConsD (fVar 3) fNilD)))) fNx) fNx) fNx)) fNx))
    (List.range' 0 w.length) natD R (fun a => ((List.range' 1 (w.length / 2)).findSome? fun p => if ovAt w a p = true then some (a, p) else none).map pairE)
    (by simp only [fVar, fC, fFn, fBin, fIx, fSl, rdSl, opSl, fPart, partV, fNo, fNil, fCons, dArg, argv_sh, argv_fr, argv_bo, argv_sc, argv_fn, fNilD, fConsD, frz_sh, frz_fr, rd_sh, rd_fr, rdS_sh, rdS_fr, rdS_sc, rdS_bo, rdSs_nil', rdSs_sh, rdSs_sc, Option.map_some, rd2_sh, rdI_sh, fLst, fTup, lstV, tupV, fCB, rdC, fIsi, isiV, fCall, dIf, fSeq, fRet, fRetN, fNx, fCt, fBk, leave, fTru, tru, fBool, boolV, tAnd', tOr', tNot', opMul_l, opMul_r, opFdiv_p, opMod_p, Int.reduceLT, Int.reduceNeg, Int.reduceAdd, Int.reduceSub, Int.reduceMul, vAnd_eq, vOr_eq, andV_bool, orV_bool, bind_ite, seq_ite, turn_ite, rtOf_ite, rtOf_rt, rtOf_nx, opEq_int, opNe_int, opEq_str, opNe_str, opLt_int, opGt_int, opLe_int, opGe_int, isi_int_none, isi_int_bool, isi_int_int, isi_int_str, isi_int_list, isi_int_tuple, isi_bool_none, isi_bool_bool, isi_bool_int, isi_bool_str, isi_bool_list, isi_bool_tuple, isi_str_none, isi_str_bool, isi_str_int, isi_str_str, isi_str_list, isi_str_tuple, isi_list_none, isi_list_bool, isi_list_int, isi_list_str, isi_list_list, isi_list_tuple, isi_tuple_none, isi_tuple_bool, isi_tuple_int, isi_tuple_str, isi_tuple_list, isi_tuple_tuple, vNot, vIf, fIsN, isNV, isN, fChain_eq, truD, decide_true, decide_false, Bool.not_true, Bool.not_false, decide_eq_true_eq, Int.cast_ofNat_Int, Int.reduceLE, Int.reduceEq, Int.reduceToNat, not_true_eq_false, not_false_eq_true, Bool.true_eq_false, dSet, dSto, stS, dSetM, dMv, dAsg, gN, gT, gCons, gNil, gSubL, dPar, stosP, stoP, fConsP, dExpr, fYes, fIr, dFor, dIt, fItems, itemsOf, fApp, appV, fMt_eq, fMt0_eq, mtS_str, mtS0_str, opS_some, tyName, dSub, subV, isOw, fMut, fMut0, mutV, fExt, extV, Out.bind_ok, Out.bind_exc, Out.bind_stuck, Out.seq_nx, Out.seq_rt, Out.seq_bk, Out.seq_ct, Out.seq_exc, Out.seq_stuck, Out.back_nx, Out.back_rt, Out.back_exc, Out.turn_nx, Out.turn_rt, Out.turn_ct, Out.turn_bk, List.getElem?_cons_zero, List.getElem?_cons_succ, List.set_cons_zero, List.set_cons_succ, List.cons_append, List.nil_append, List.map_cons, List.map_nil, List.replicate, List.length_cons, List.length_nil, if_true, if_false, Bool.false_eq_true, opLen, opAdd, opSub, opIx, Sw_len, Sw_add, Sw_cut, Sw_cps, Its.grab, Its.free, Nat.zero_add, Nat.sub_zero, Nat.reduceAdd, Nat.reduceSub, fRng1_nat (n := w.length) (by omega)]; rw [show rng 0 w.length = rng ((0 : Nat) : Int) w.length from rfl, rng_nat]; rfl) ⟨none, none, rfl⟩ ?hs) ?hm
  case hm =>
    rintro ρ2 ⟨⟨m1, m2, rfl⟩, h⟩
    refine (congrArg (fun o => rtOf (Out.seq o _)) h).trans ?_
    rw [find_map]
    unfold ovF
    cases (List.range' 0 w.length).findSome? fun a => (List.range' 1 (w.length / 2)).findSome? fun p => if ovAt w a p = true then some (a, p) else none with
    | none => rfl
    | some r => rfl
  case hs =>
    rintro a ha ρ ⟨m1, m2, rfl⟩
    refine ⟨[some (.sh (dw w)), some (.fn nm_is_overlap_at), some (.sh (natD a)), m2.map .sh], by cases m1 <;> rfl, ?_⟩
    refine Exists.elim (dFor_look (ρ := [some (SV.sh (dw w)), some (SV.fn nm_is_overlap_at), some (.sh (natD a)), m2.map .sh]) (g := gN 3) (fi := (fIr fRng2 (fCons (fC (PyData.int 1)) (fCons (fBin opAdd (fBin opFdiv (fCB opLen (fCons (fVar 0) fNil)) (fC (PyData.int 2))) (fC (PyData.int 1))) fNil))))
      (fb := (fSeq (dIf (fTru (fCallV 1 [(nm_is_overlap_at, 3, g_is_overlap_at)] (fCons (fVar 0) (fCons (fVar 2) (fCons (fVar 3) fNil))))) (fSeq (fRet (fTup (fConsD (fVar 2) (fConsD (fVar 3) fNilD)))) fNx) fNx) fNx))
      (List.range' 1 (w.length / 2)) natD (fun ρ => ∃ m : Option D, ρ = [some (.sh (dw w)), some (.fn nm_is_overlap_at), some (.sh (natD a)), m.map .sh]) (fun p => (if ovAt w a p = true then some (a, p) else none).map pairE) ?hi ⟨m2, rfl⟩ ?hs) ?hm
    case hm =>
      rintro ρ3 ⟨⟨m, rfl⟩, h3⟩
      refine ⟨_, ⟨some (natD a), m, rfl⟩, (congrArg (fun o => Out.seq o fNx) h3).trans ?_⟩
      rw [find_map]
      cases (List.range' 1 (w.length / 2)).findSome? fun p => if ovAt w a p = true then some (a, p) else none with
      | none => rfl
      | some r => rfl
    case hi =>
      simp only [fVar, fC, fFn, fBin, fIx, fSl, rdSl, opSl, fPart, partV, fNo, fNil, fCons, dArg, argv_sh, argv_fr, argv_bo, argv_sc, argv_fn, fNilD, fConsD, frz_sh, frz_fr, rd_sh, rd_fr, rdS_sh, rdS_fr, rdS_sc, rdS_bo, rdSs_nil', rdSs_sh, rdSs_sc, Option.map_some, rd2_sh, rdI_sh, fLst, fTup, lstV, tupV, fCB, rdC, fIsi, isiV, fCall, dIf, fSeq, fRet, fRetN, fNx, fCt, fBk, leave, fTru, tru, fBool, boolV, tAnd', tOr', tNot', opMul_l, opMul_r, opFdiv_p, opMod_p, Int.reduceLT, Int.reduceNeg, Int.reduceAdd, Int.reduceSub, Int.reduceMul, vAnd_eq, vOr_eq, andV_bool, orV_bool, bind_ite, seq_ite, turn_ite, rtOf_ite, rtOf_rt, rtOf_nx, opEq_int, opNe_int, opEq_str, opNe_str, opLt_int, opGt_int, opLe_int, opGe_int, isi_int_none, isi_int_bool, isi_int_int, isi_int_str, isi_int_list, isi_int_tuple, isi_bool_none, isi_bool_bool, isi_bool_int, isi_bool_str, isi_bool_list, isi_bool_tuple, isi_str_none, isi_str_bool, isi_str_int, isi_str_str, isi_str_list, isi_str_tuple, isi_list_none, isi_list_bool, isi_list_int, isi_list_str, isi_list_list, isi_list_tuple, isi_tuple_none, isi_tuple_bool, isi_tuple_int, isi_tuple_str, isi_tuple_list, isi_tuple_tuple, vNot, vIf, fIsN, isNV, isN, fChain_eq, truD, decide_true, decide_false, Bool.not_true, Bool.not_false, decide_eq_true_eq, Int.cast_ofNat_Int, Int.reduceLE, Int.reduceEq, Int.reduceToNat, not_true_eq_false, not_false_eq_true, Bool.true_eq_false, dSet, dSto, stS, dSetM, dMv, dAsg, gN, gT, gCons, gNil, gSubL, dPar, stosP, stoP, fConsP, dExpr, fYes, fIr, dFor, dIt, fItems, itemsOf, fApp, appV, fMt_eq, fMt0_eq, mtS_str, mtS0_str, opS_some, tyName, dSub, subV, isOw, fMut, fMut0, mutV, fExt, extV, Out.bind_ok, Out.bind_exc, Out.bind_stuck, Out.seq_nx, Out.seq_rt, Out.seq_bk, Out.seq_ct, Out.seq_exc, Out.seq_stuck, Out.back_nx, Out.back_rt, Out.back_exc, Out.turn_nx, Out.turn_rt, Out.turn_ct, Out.turn_bk, List.getElem?_cons_zero, List.getElem?_cons_succ, List.set_cons_zero, List.set_cons_succ, List.cons_append, List.nil_append, List.map_cons, List.map_nil, List.replicate, List.length_cons, List.length_nil, if_true, if_false, Bool.false_eq_true, opLen, opAdd, opSub, opIx, Sw_len, Sw_add, Sw_cut, Sw_cps, Its.grab, Its.free, Nat.zero_add, Nat.sub_zero, Nat.reduceAdd, Nat.reduceSub, opFdiv_p (i := (w.length : Int)) (j := 2) (by decide) (by decide)]
      have e : ((w.length : Int) / 2 + 1) = ((w.length / 2 + 1 : Nat) : Int) := by omega
      rw [e]
      have e2 : fRng2 [.sh (.int (1 : Int)), .sh (.int ((w.length / 2 + 1 : Nat) : Int))] = fRng2 [.sh (.int ((1 : Nat) : Int)), .sh (.int ((w.length / 2 + 1 : Nat) : Int))] := rfl
      rw [e2, fRng2_nat (by omega) (by omega), rng_nat]
      rfl
    case hs =>
      rintro p hp ρ ⟨m, rfl⟩
      refine ⟨[some (.sh (dw w)), some (.fn nm_is_overlap_at), some (.sh (natD a)), some (.sh (natD p))], by cases m <;> rfl, [some (.sh (dw w)), some (.fn nm_is_overlap_at), some (.sh (natD a)), some (.sh (natD p))], ⟨some (natD p), rfl⟩, ?_⟩
      have hlk : List.lookup nm_is_overlap_at [(nm_is_overlap_at, 3, g_is_overlap_at)] = some (3, g_is_overlap_at) := by simp [List.lookup]
      have hc : fCallV 1 [(nm_is_overlap_at, 3, g_is_overlap_at)] (fCons (fVar 0) (fCons (fVar 2) (fCons (fVar 3) fNil))) [some (.sh (dw w)), some (.fn nm_is_overlap_at), some (.sh (natD a)), some (.sh (natD p))] = .ok (.sh (.bool (ovAt w a p))) [some (.sh (dw w)), some (.fn nm_is_overlap_at), some (.sh (natD a)), some (.sh (natD p))] := by
        unfold fCallV
        rw [fnAt_fn (y := nm_is_overlap_at) rfl, hlk]
        unfold natD
        simp only [fVar, fC, fFn, fBin, fIx, fSl, rdSl, opSl, fPart, partV, fNo, fNil, fCons, dArg, argv_sh, argv_fr, argv_bo, argv_sc, argv_fn, fNilD, fConsD, frz_sh, frz_fr, rd_sh, rd_fr, rdS_sh, rdS_fr, rdS_sc, rdS_bo, rdSs_nil', rdSs_sh, rdSs_sc, Option.map_some, rd2_sh, rdI_sh, fLst, fTup, lstV, tupV, fCB, rdC, fIsi, isiV, fCall, dIf, fSeq, fRet, fRetN, fNx, fCt, fBk, leave, fTru, tru, fBool, boolV, tAnd', tOr', tNot', opMul_l, opMul_r, opFdiv_p, opMod_p, Int.reduceLT, Int.reduceNeg, Int.reduceAdd, Int.reduceSub, Int.reduceMul, vAnd_eq, vOr_eq, andV_bool, orV_bool, bind_ite, seq_ite, turn_ite, rtOf_ite, rtOf_rt, rtOf_nx, opEq_int, opNe_int, opEq_str, opNe_str, opLt_int, opGt_int, opLe_int, opGe_int, isi_int_none, isi_int_bool, isi_int_int, isi_int_str, isi_int_list, isi_int_tuple, isi_bool_none, isi_bool_bool, isi_bool_int, isi_bool_str, isi_bool_list, isi_bool_tuple, isi_str_none, isi_str_bool, isi_str_int, isi_str_str, isi_str_list, isi_str_tuple, isi_list_none, isi_list_bool, isi_list_int, isi_list_str, isi_list_list, isi_list_tuple, isi_tuple_none, isi_tuple_bool, isi_tuple_int, isi_tuple_str, isi_tuple_list, isi_tuple_tuple, vNot, vIf, fIsN, isNV, isN, fChain_eq, truD, decide_true, decide_false, Bool.not_true, Bool.not_false, decide_eq_true_eq, Int.cast_ofNat_Int, Int.reduceLE, Int.reduceEq, Int.reduceToNat, not_true_eq_false, not_false_eq_true, Bool.true_eq_false, dSet, dSto, stS, dSetM, dMv, dAsg, gN, gT, gCons, gNil, gSubL, dPar, stosP, stoP, fConsP, dExpr, fYes, fIr, dFor, dIt, fItems, itemsOf, fApp, appV, fMt_eq, fMt0_eq, mtS_str, mtS0_str, opS_some, tyName, dSub, subV, isOw, fMut, fMut0, mutV, fExt, extV, Out.bind_ok, Out.bind_exc, Out.bind_stuck, Out.seq_nx, Out.seq_rt, Out.seq_bk, Out.seq_ct, Out.seq_exc, Out.seq_stuck, Out.back_nx, Out.back_rt, Out.back_exc, Out.turn_nx, Out.turn_rt, Out.turn_ct, Out.turn_bk, List.getElem?_cons_zero, List.getElem?_cons_succ, List.set_cons_zero, List.set_cons_succ, List.cons_append, List.nil_append, List.map_cons, List.map_nil, List.replicate, List.length_cons, List.length_nil, if_true, if_false, Bool.false_eq_true, opLen, opAdd, opSub, opIx, Sw_len, Sw_add, Sw_cut, Sw_cps, Its.grab, Its.free, Nat.zero_add, Nat.sub_zero, Nat.reduceAdd, Nat.reduceSub, call3 (is_overlap_at_eq w a p)]
        rfl
      simp only [fVar, fC, fFn, fBin, fIx, fSl, rdSl, opSl, fPart, partV, fNo, fNil, fCons, dArg, argv_sh, argv_fr, argv_bo, argv_sc, argv_fn, fNilD, fConsD, frz_sh, frz_fr, rd_sh, rd_fr, rdS_sh, rdS_fr, rdS_sc, rdS_bo, rdSs_nil', rdSs_sh, rdSs_sc, Option.map_some, rd2_sh, rdI_sh, fLst, fTup, lstV, tupV, fCB, rdC, fIsi, isiV, fCall, dIf, fSeq, fRet, fRetN, fNx, fCt, fBk, leave, fTru, tru, fBool, boolV, tAnd', tOr', tNot', opMul_l, opMul_r, opFdiv_p, opMod_p, Int.reduceLT, Int.reduceNeg, Int.reduceAdd, Int.reduceSub, Int.reduceMul, vAnd_eq, vOr_eq, andV_bool, orV_bool, bind_ite, seq_ite, turn_ite, rtOf_ite, rtOf_rt, rtOf_nx, opEq_int, opNe_int, opEq_str, opNe_str, opLt_int, opGt_int, opLe_int, opGe_int, isi_int_none, isi_int_bool, isi_int_int, isi_int_str, isi_int_list, isi_int_tuple, isi_bool_none, isi_bool_bool, isi_bool_int, isi_bool_str, isi_bool_list, isi_bool_tuple, isi_str_none, isi_str_bool, isi_str_int, isi_str_str, isi_str_list, isi_str_tuple, isi_list_none, isi_list_bool, isi_list_int, isi_list_str, isi_list_list, isi_list_tuple, isi_tuple_none, isi_tuple_bool, isi_tuple_int, isi_tuple_str, isi_tuple_list, isi_tuple_tuple, vNot, vIf, fIsN, isNV, isN, fChain_eq, truD, decide_true, decide_false, Bool.not_true, Bool.not_false, decide_eq_true_eq, Int.cast_ofNat_Int, Int.reduceLE, Int.reduceEq, Int.reduceToNat, not_true_eq_false, not_false_eq_true, Bool.true_eq_false, dSet, dSto, stS, dSetM, dMv, dAsg, gN, gT, gCons, gNil, gSubL, dPar, stosP, stoP, fConsP, dExpr, fYes, fIr, dFor, dIt, fItems, itemsOf, fApp, appV, fMt_eq, fMt0_eq, mtS_str, mtS0_str, opS_some, tyName, dSub, subV, isOw, fMut, fMut0, mutV, fExt, extV, Out.bind_ok, Out.bind_exc, Out.bind_stuck, Out.seq_nx, Out.seq_rt, Out.seq_bk, Out.seq_ct, Out.seq_exc, Out.seq_stuck, Out.back_nx, Out.back_rt, Out.back_exc, Out.turn_nx, Out.turn_rt, Out.turn_ct, Out.turn_bk, List.getElem?_cons_zero, List.getElem?_cons_succ, List.set_cons_zero, List.set_cons_succ, List.cons_append, List.nil_append, List.map_cons, List.map_nil, List.replicate, List.length_cons, List.length_nil, if_true, if_false, Bool.false_eq_true, opLen, opAdd, opSub, opIx, Sw_len, Sw_add, Sw_cut, Sw_cps, Its.grab, Its.free, Nat.zero_add, Nat.sub_zero, Nat.reduceAdd, Nat.reduceSub, hc]
      cases ovAt w a p <;> rfl
end K87
namespace K87
open PySem DL
abbrev TT : List Nat := [97, 98, 98, 97, 98, 97, 97, 98]
theorem tt_ab : AB TT := by intro c hc; simp only [List.mem_cons, List.not_mem_nil, or_false] at hc; omega
/-- the text that the law asks about -/
abbrev txt (u v : List Nat) : List Nat := img u v TT
theorem txt_len {u v : List Nat} (h : Ok u v) : (txt u v).length ≤ 1000 := by
  obtain ⟨h1, h2, h3, h4, h5, h6⟩ := h
  exact Nat.le_trans (img_len (u := u) (v := v) (by omega) (by omega) TT) (by decide)
theorem image_txt {u v : List Nat} (h : Ok u v) : Gv g_image_of [imD u v, dw TT] (.sh (dw (txt u v))) := by
  obtain ⟨h1, h2, h3, h4, h5, h6⟩ := h
  exact image_of_eq u v tt_ab (by omega) (by omega) (by decide)
theorem overlap_paper_eq {u v : List Nat} (h : Ok u v) : Gv g_overlap_paper [imD u v] (.sh (optD (ovF (txt u v)))) := by
  refine gv_rt ?_
  unfold b_overlap_paper
  simp only [fVar, fC, fFn, fBin, fIx, fSl, rdSl, opSl, fPart, partV, fNo, fNil, fCons, dArg, argv_sh, argv_fr, argv_bo, argv_sc, argv_fn, fNilD, fConsD, frz_sh, frz_fr, rd_sh, rd_fr, rdS_sh, rdS_fr, rdS_sc, rdS_bo, rdSs_nil', rdSs_sh, rdSs_sc, Option.map_some, rd2_sh, rdI_sh, fLst, fTup, lstV, tupV, fCB, rdC, fIsi, isiV, fCall, dIf, fSeq, fRet, fRetN, fNx, fCt, fBk, leave, fTru, tru, fBool, boolV, tAnd', tOr', tNot', opMul_l, opMul_r, opFdiv_p, opMod_p, Int.reduceLT, Int.reduceNeg, Int.reduceAdd, Int.reduceSub, Int.reduceMul, vAnd_eq, vOr_eq, andV_bool, orV_bool, bind_ite, seq_ite, turn_ite, rtOf_ite, rtOf_rt, rtOf_nx, opEq_int, opNe_int, opEq_str, opNe_str, opLt_int, opGt_int, opLe_int, opGe_int, isi_int_none, isi_int_bool, isi_int_int, isi_int_str, isi_int_list, isi_int_tuple, isi_bool_none, isi_bool_bool, isi_bool_int, isi_bool_str, isi_bool_list, isi_bool_tuple, isi_str_none, isi_str_bool, isi_str_int, isi_str_str, isi_str_list, isi_str_tuple, isi_list_none, isi_list_bool, isi_list_int, isi_list_str, isi_list_list, isi_list_tuple, isi_tuple_none, isi_tuple_bool, isi_tuple_int, isi_tuple_str, isi_tuple_list, isi_tuple_tuple, vNot, vIf, fIsN, isNV, isN, fChain_eq, truD, decide_true, decide_false, Bool.not_true, Bool.not_false, decide_eq_true_eq, Int.cast_ofNat_Int, Int.reduceLE, Int.reduceEq, Int.reduceToNat, not_true_eq_false, not_false_eq_true, Bool.true_eq_false, dSet, dSto, stS, dSetM, dMv, dAsg, gN, gT, gCons, gNil, gSubL, dPar, stosP, stoP, fConsP, dExpr, fYes, fIr, dFor, dIt, fItems, itemsOf, fApp, appV, fMt_eq, fMt0_eq, mtS_str, mtS0_str, opS_some, tyName, dSub, subV, isOw, fMut, fMut0, mutV, fExt, extV, Out.bind_ok, Out.bind_exc, Out.bind_stuck, Out.seq_nx, Out.seq_rt, Out.seq_bk, Out.seq_ct, Out.seq_exc, Out.seq_stuck, Out.back_nx, Out.back_rt, Out.back_exc, Out.turn_nx, Out.turn_rt, Out.turn_ct, Out.turn_bk, List.getElem?_cons_zero, List.getElem?_cons_succ, List.set_cons_zero, List.set_cons_succ, List.cons_append, List.nil_append, List.map_cons, List.map_nil, List.replicate, List.length_cons, List.length_nil, if_true, if_false, Bool.false_eq_true, opLen, opAdd, opSub, opIx, Sw_len, Sw_add, Sw_cut, Sw_cps, Its.grab, Its.free, Nat.zero_add, Nat.sub_zero, Nat.reduceAdd, Nat.reduceSub, lit_test, call1 (check_two_ok h), call2 (image_txt h), fFn, call2f (first_at_eq (txt_len h))]
/-! ### the law's looks -/
def ovL (w : List Nat) : Option (Nat × Nat) := (List.range' 0 w.length).findSome? fun a => (List.range' 1 ((w.length - a - 1) / 2)).findSome? fun p => if sub w a (a + p + 1) = sub w (a + p) (a + 2 * p + 1) then some (a, p) else none
theorem find_none {α β : Type} (f : α → Option β) (xs : List α) (h : ∀ x ∈ xs, f x = none) : xs.findSome? f = none := by
  rw [List.findSome?_eq_none_iff]; exact h
theorem find_congr {α β : Type} {f g : α → Option β} : ∀ {xs : List α}, (∀ x ∈ xs, f x = g x) → xs.findSome? f = xs.findSome? g
  | [], _ => rfl
  | x :: xs, h => by
    rw [List.findSome?_cons, List.findSome?_cons, h x (by simp), find_congr (xs := xs) fun y hy => h y (by simp [hy])]
theorem ovL_eq (w : List Nat) : ovL w = ovF w := by
  unfold ovL ovF
  refine find_congr fun a ha => ?_
  have ha : a < w.length := by
    rw [List.mem_range'] at ha
    obtain ⟨i, hi, rfl⟩ := ha
    omega
  obtain ⟨m, hm⟩ : ∃ m, w.length / 2 = (w.length - a - 1) / 2 + m := ⟨w.length / 2 - (w.length - a - 1) / 2, by omega⟩
  rw [hm, ← List.range'_append_1, List.findSome?_append]
  have e1 : (List.range' (1 + (w.length - a - 1) / 2) m).findSome? (fun p => if ovAt w a p = true then some (a, p) else none) = none := by
    refine find_none _ _ fun p hp => ?_
    rw [List.mem_range'] at hp
    obtain ⟨i, hi, rfl⟩ := hp
    rw [if_neg]
    unfold ovAt
    simp only [Bool.and_eq_true, decide_eq_true_eq]
    omega
  rw [e1, Option.or_none]
  refine find_congr fun p hp => ?_
  rw [List.mem_range'] at hp
  obtain ⟨i, hi, rfl⟩ := hp
  unfold ovAt
  have : a + 2 * (1 + 1 * i) + 1 ≤ w.length := by omega
  simp only [this, decide_true, Bool.true_and, decide_eq_true_eq]
theorem law_overlap_eq {w : List Nat} (hl : w.length ≤ 1000) : Gv g__law_overlap [dw w] (.sh (optD (ovF w))) := by
  refine gv_rt ?_
  unfold b__law_overlap
  let R : DL.Env → Prop := fun ρ => ∃ m1 m2 : Option D, ρ = [some (.sh (dw w)), m1.map .sh, m2.map .sh]
  refine seq_look (fun o => rtOf o = _) (List.range' 0 w.length) natD R (fun a => ((List.range' 1 ((w.length - a - 1) / 2)).findSome? fun p => if sub w a (a + p + 1) = sub w (a + p) (a + 2 * p + 1) then some (a, p) else none).map pairE)
    (ρ1 := [some (SV.sh (dw w)), none, none]) (by simp only [fVar, fC, fFn, fBin, fIx, fSl, rdSl, opSl, fPart, partV, fNo, fNil, fCons, dArg, argv_sh, argv_fr, argv_bo, argv_sc, argv_fn, fNilD, fConsD, frz_sh, frz_fr, rd_sh, rd_fr, rdS_sh, rdS_fr, rdS_sc, rdS_bo, rdSs_nil', rdSs_sh, rdSs_sc, Option.map_some, rd2_sh, rdI_sh, fLst, fTup, lstV, tupV, fCB, rdC, fIsi, isiV, fCall, dIf, fSeq, fRet, fRetN, fNx, fCt, fBk, leave, fTru, tru, fBool, boolV, tAnd', tOr', tNot', opMul_l, opMul_r, opFdiv_p, opMod_p, Int.reduceLT, Int.reduceNeg, Int.reduceAdd, Int.reduceSub, Int.reduceMul, vAnd_eq, vOr_eq, andV_bool, orV_bool, bind_ite, seq_ite, turn_ite, rtOf_ite, rtOf_rt, rtOf_nx, opEq_int, opNe_int, opEq_str, opNe_str, opLt_int, opGt_int, opLe_int, opGe_int, isi_int_none, isi_int_bool, isi_int_int, isi_int_str, isi_int_list, isi_int_tuple, isi_bool_none, isi_bool_bool, isi_bool_int, isi_bool_str, isi_bool_list, isi_bool_tuple, isi_str_none, isi_str_bool, isi_str_int, isi_str_str, isi_str_list, isi_str_tuple, isi_list_none, isi_list_bool, isi_list_int, isi_list_str, isi_list_list, isi_list_tuple, isi_tuple_none, isi_tuple_bool, isi_tuple_int, isi_tuple_str, isi_tuple_list, isi_tuple_tuple, vNot, vIf, fIsN, isNV, isN, fChain_eq, truD, decide_true, decide_false, Bool.not_true, Bool.not_false, decide_eq_true_eq, Int.cast_ofNat_Int, Int.reduceLE, Int.reduceEq, Int.reduceToNat, not_true_eq_false, not_false_eq_true, Bool.true_eq_false, dSet, dSto, stS, dSetM, dMv, dAsg, gN, gT, gCons, gNil, gSubL, dPar, stosP, stoP, fConsP, dExpr, fYes, fIr, dFor, dIt, fItems, itemsOf, fApp, appV, fMt_eq, fMt0_eq, mtS_str, mtS0_str, opS_some, tyName, dSub, subV, isOw, fMut, fMut0, mutV, fExt, extV, Out.bind_ok, Out.bind_exc, Out.bind_stuck, Out.seq_nx, Out.seq_rt, Out.seq_bk, Out.seq_ct, Out.seq_exc, Out.seq_stuck, Out.back_nx, Out.back_rt, Out.back_exc, Out.turn_nx, Out.turn_rt, Out.turn_ct, Out.turn_bk, List.getElem?_cons_zero, List.getElem?_cons_succ, List.set_cons_zero, List.set_cons_succ, List.cons_append, List.nil_append, List.map_cons, List.map_nil, List.replicate, List.length_cons, List.length_nil, if_true, if_false, Bool.false_eq_true, opLen, opAdd, opSub, opIx, Sw_len, Sw_add, Sw_cut, Sw_cps, Its.grab, Its.free, Nat.zero_add, Nat.sub_zero, Nat.reduceAdd, Nat.reduceSub, fRng1_nat (n := w.length) (by omega)]; rw [show rng 0 w.length = rng ((0 : Nat) : Int) w.length from rfl, rng_nat]; rfl) ⟨none, none, rfl⟩ ?hs ?hm
  case hm =>
    rintro ρ2 ⟨m1, m2, rfl⟩
    rw [find_map, ← ovL_eq]
    unfold ovL
    cases (List.range' 0 w.length).findSome? fun a => (List.range' 1 ((w.length - a - 1) / 2)).findSome? fun p => if sub w a (a + p + 1) = sub w (a + p) (a + 2 * p + 1) then some (a, p) else none with
    | none => rfl
    | some r => rfl
  case hs =>
    rintro a ha ρ ⟨m1, m2, rfl⟩
    have ha : a < w.length := by
      rw [List.mem_range'] at ha
      obtain ⟨i, hi, rfl⟩ := ha
      omega
    refine ⟨[some (.sh (dw w)), some (.sh (natD a)), m2.map .sh], by cases m1 <;> rfl, ?_⟩
    refine seq_lookX
      (List.range' 1 ((w.length - a - 1) / 2)) natD (fun ρ => ∃ m : Option D, ρ = [some (.sh (dw w)), some (.sh (natD a)), m.map .sh]) (fun p => (if sub w a (a + p + 1) = sub w (a + p) (a + 2 * p + 1) then some (a, p) else none).map pairE) ?hi ⟨m2, rfl⟩ ?hs ?hm
    case hm =>
      rintro ρ3 ⟨m, rfl⟩
      refine ⟨_, ⟨some (natD a), m, rfl⟩, ?_⟩
      rw [find_map]
      cases (List.range' 1 ((w.length - a - 1) / 2)).findSome? fun p => if sub w a (a + p + 1) = sub w (a + p) (a + 2 * p + 1) then some (a, p) else none with
      | none => rfl
      | some r => rfl
    case hi =>
      simp only [fVar, fC, fFn, fBin, fIx, fSl, rdSl, opSl, fPart, partV, fNo, fNil, fCons, dArg, argv_sh, argv_fr, argv_bo, argv_sc, argv_fn, fNilD, fConsD, frz_sh, frz_fr, rd_sh, rd_fr, rdS_sh, rdS_fr, rdS_sc, rdS_bo, rdSs_nil', rdSs_sh, rdSs_sc, Option.map_some, rd2_sh, rdI_sh, fLst, fTup, lstV, tupV, fCB, rdC, fIsi, isiV, fCall, dIf, fSeq, fRet, fRetN, fNx, fCt, fBk, leave, fTru, tru, fBool, boolV, tAnd', tOr', tNot', opMul_l, opMul_r, opFdiv_p, opMod_p, Int.reduceLT, Int.reduceNeg, Int.reduceAdd, Int.reduceSub, Int.reduceMul, vAnd_eq, vOr_eq, andV_bool, orV_bool, bind_ite, seq_ite, turn_ite, rtOf_ite, rtOf_rt, rtOf_nx, opEq_int, opNe_int, opEq_str, opNe_str, opLt_int, opGt_int, opLe_int, opGe_int, isi_int_none, isi_int_bool, isi_int_int, isi_int_str, isi_int_list, isi_int_tuple, isi_bool_none, isi_bool_bool, isi_bool_int, isi_bool_str, isi_bool_list, isi_bool_tuple, isi_str_none, isi_str_bool, isi_str_int, isi_str_str, isi_str_list, isi_str_tuple, isi_list_none, isi_list_bool, isi_list_int, isi_list_str, isi_list_list, isi_list_tuple, isi_tuple_none, isi_tuple_bool, isi_tuple_int, isi_tuple_str, isi_tuple_list, isi_tuple_tuple, vNot, vIf, fIsN, isNV, isN, fChain_eq, truD, decide_true, decide_false, Bool.not_true, Bool.not_false, decide_eq_true_eq, Int.cast_ofNat_Int, Int.reduceLE, Int.reduceEq, Int.reduceToNat, not_true_eq_false, not_false_eq_true, Bool.true_eq_false, dSet, dSto, stS, dSetM, dMv, dAsg, gN, gT, gCons, gNil, gSubL, dPar, stosP, stoP, fConsP, dExpr, fYes, fIr, dFor, dIt, fItems, itemsOf, fApp, appV, fMt_eq, fMt0_eq, mtS_str, mtS0_str, opS_some, tyName, dSub, subV, isOw, fMut, fMut0, mutV, fExt, extV, Out.bind_ok, Out.bind_exc, Out.bind_stuck, Out.seq_nx, Out.seq_rt, Out.seq_bk, Out.seq_ct, Out.seq_exc, Out.seq_stuck, Out.back_nx, Out.back_rt, Out.back_exc, Out.turn_nx, Out.turn_rt, Out.turn_ct, Out.turn_bk, List.getElem?_cons_zero, List.getElem?_cons_succ, List.set_cons_zero, List.set_cons_succ, List.cons_append, List.nil_append, List.map_cons, List.map_nil, List.replicate, List.length_cons, List.length_nil, if_true, if_false, Bool.false_eq_true, opLen, opAdd, opSub, opIx, Sw_len, Sw_add, Sw_cut, Sw_cps, Its.grab, Its.free, Nat.zero_add, Nat.sub_zero, Nat.reduceAdd, Nat.reduceSub, natD]
      have e : ((w.length : Int) - a - 1) / 2 + 1 = (((w.length - a - 1) / 2 + 1 : Nat) : Int) := by omega
      rw [e]
      have e2 : fRng2 [.sh (.int (1 : Int)), .sh (.int (((w.length - a - 1) / 2 + 1 : Nat) : Int))] = fRng2 [.sh (.int ((1 : Nat) : Int)), .sh (.int (((w.length - a - 1) / 2 + 1 : Nat) : Int))] := rfl
      rw [e2, fRng2_nat (by omega) (by omega), rng_nat]
      rfl
    case hs =>
      rintro p hp ρ ⟨m, rfl⟩
      refine ⟨[some (.sh (dw w)), some (.sh (natD a)), some (.sh (natD p))], by cases m <;> rfl, [some (.sh (dw w)), some (.sh (natD a)), some (.sh (natD p))], ⟨some (natD p), rfl⟩, ?_⟩
      simp only [fVar, fC, fFn, fBin, fIx, fSl, rdSl, opSl, fPart, partV, fNo, fNil, fCons, dArg, argv_sh, argv_fr, argv_bo, argv_sc, argv_fn, fNilD, fConsD, frz_sh, frz_fr, rd_sh, rd_fr, rdS_sh, rdS_fr, rdS_sc, rdS_bo, rdSs_nil', rdSs_sh, rdSs_sc, Option.map_some, rd2_sh, rdI_sh, fLst, fTup, lstV, tupV, fCB, rdC, fIsi, isiV, fCall, dIf, fSeq, fRet, fRetN, fNx, fCt, fBk, leave, fTru, tru, fBool, boolV, tAnd', tOr', tNot', opMul_l, opMul_r, opFdiv_p, opMod_p, Int.reduceLT, Int.reduceNeg, Int.reduceAdd, Int.reduceSub, Int.reduceMul, vAnd_eq, vOr_eq, andV_bool, orV_bool, bind_ite, seq_ite, turn_ite, rtOf_ite, rtOf_rt, rtOf_nx, opEq_int, opNe_int, opEq_str, opNe_str, opLt_int, opGt_int, opLe_int, opGe_int, isi_int_none, isi_int_bool, isi_int_int, isi_int_str, isi_int_list, isi_int_tuple, isi_bool_none, isi_bool_bool, isi_bool_int, isi_bool_str, isi_bool_list, isi_bool_tuple, isi_str_none, isi_str_bool, isi_str_int, isi_str_str, isi_str_list, isi_str_tuple, isi_list_none, isi_list_bool, isi_list_int, isi_list_str, isi_list_list, isi_list_tuple, isi_tuple_none, isi_tuple_bool, isi_tuple_int, isi_tuple_str, isi_tuple_list, isi_tuple_tuple, vNot, vIf, fIsN, isNV, isN, fChain_eq, truD, decide_true, decide_false, Bool.not_true, Bool.not_false, decide_eq_true_eq, Int.cast_ofNat_Int, Int.reduceLE, Int.reduceEq, Int.reduceToNat, not_true_eq_false, not_false_eq_true, Bool.true_eq_false, dSet, dSto, stS, dSetM, dMv, dAsg, gN, gT, gCons, gNil, gSubL, dPar, stosP, stoP, fConsP, dExpr, fYes, fIr, dFor, dIt, fItems, itemsOf, fApp, appV, fMt_eq, fMt0_eq, mtS_str, mtS0_str, opS_some, tyName, dSub, subV, isOw, fMut, fMut0, mutV, fExt, extV, Out.bind_ok, Out.bind_exc, Out.bind_stuck, Out.seq_nx, Out.seq_rt, Out.seq_bk, Out.seq_ct, Out.seq_exc, Out.seq_stuck, Out.back_nx, Out.back_rt, Out.back_exc, Out.turn_nx, Out.turn_rt, Out.turn_ct, Out.turn_bk, List.getElem?_cons_zero, List.getElem?_cons_succ, List.set_cons_zero, List.set_cons_succ, List.cons_append, List.nil_append, List.map_cons, List.map_nil, List.replicate, List.length_cons, List.length_nil, if_true, if_false, Bool.false_eq_true, opLen, opAdd, opSub, opIx, Sw_len, Sw_add, Sw_cut, Sw_cps, Its.grab, Its.free, Nat.zero_add, Nat.sub_zero, Nat.reduceAdd, Nat.reduceSub, natD]
      have e1 : (a : Int) + p + 1 = ((a + p + 1 : Nat) : Int) := by omega
      have e2 : (a : Int) + 2 * p + 1 = ((a + 2 * p + 1 : Nat) : Int) := by omega
      have e3 : (a : Int) + p = ((a + p : Nat) : Int) := by omega
      rw [e1, e2, e3, cut_nn, cut_nn]
      by_cases h : sub w a (a + p + 1) = sub w (a + p) (a + 2 * p + 1)
      · simp only [h, if_true]; rfl
      · simp only [h, if_false]; rfl
end K87
namespace K87
open PySem DL
theorem law_image_eq (u v : List Nat) {w : List Nat} (h : AB w) (hu : u.length ≤ 100) (hv : v.length ≤ 100) (hl : w.length ≤ 1000) : Gv g__law_image [imD u v, dw w] (.sh (dw (img u v w))) := by
  refine gv_rt ?_
  unfold b__law_image imD
  simp only [fVar, fC, fFn, fBin, fIx, fSl, rdSl, opSl, fPart, partV, fNo, fNil, fCons, dArg, argv_sh, argv_fr, argv_bo, argv_sc, argv_fn, fNilD, fConsD, frz_sh, frz_fr, rd_sh, rd_fr, rdS_sh, rdS_fr, rdS_sc, rdS_bo, rdSs_nil', rdSs_sh, rdSs_sc, Option.map_some, rd2_sh, rdI_sh, fLst, fTup, lstV, tupV, fCB, rdC, fIsi, isiV, fCall, dIf, fSeq, fRet, fRetN, fNx, fCt, fBk, leave, fTru, tru, fBool, boolV, tAnd', tOr', tNot', opMul_l, opMul_r, opFdiv_p, opMod_p, Int.reduceLT, Int.reduceNeg, Int.reduceAdd, Int.reduceSub, Int.reduceMul, vAnd_eq, vOr_eq, andV_bool, orV_bool, bind_ite, seq_ite, turn_ite, rtOf_ite, rtOf_rt, rtOf_nx, opEq_int, opNe_int, opEq_str, opNe_str, opLt_int, opGt_int, opLe_int, opGe_int, isi_int_none, isi_int_bool, isi_int_int, isi_int_str, isi_int_list, isi_int_tuple, isi_bool_none, isi_bool_bool, isi_bool_int, isi_bool_str, isi_bool_list, isi_bool_tuple, isi_str_none, isi_str_bool, isi_str_int, isi_str_str, isi_str_list, isi_str_tuple, isi_list_none, isi_list_bool, isi_list_int, isi_list_str, isi_list_list, isi_list_tuple, isi_tuple_none, isi_tuple_bool, isi_tuple_int, isi_tuple_str, isi_tuple_list, isi_tuple_tuple, vNot, vIf, fIsN, isNV, isN, fChain_eq, truD, decide_true, decide_false, Bool.not_true, Bool.not_false, decide_eq_true_eq, Int.cast_ofNat_Int, Int.reduceLE, Int.reduceEq, Int.reduceToNat, not_true_eq_false, not_false_eq_true, Bool.true_eq_false, dSet, dSto, stS, dSetM, dMv, dAsg, gN, gT, gCons, gNil, gSubL, dPar, stosP, stoP, fConsP, dExpr, fYes, fIr, dFor, dIt, fItems, itemsOf, fApp, appV, fMt_eq, fMt0_eq, mtS_str, mtS0_str, opS_some, tyName, dSub, subV, isOw, fMut, fMut0, mutV, fExt, extV, Out.bind_ok, Out.bind_exc, Out.bind_stuck, Out.seq_nx, Out.seq_rt, Out.seq_bk, Out.seq_ct, Out.seq_exc, Out.seq_stuck, Out.back_nx, Out.back_rt, Out.back_exc, Out.turn_nx, Out.turn_rt, Out.turn_ct, Out.turn_bk, List.getElem?_cons_zero, List.getElem?_cons_succ, List.set_cons_zero, List.set_cons_succ, List.cons_append, List.nil_append, List.map_cons, List.map_nil, List.replicate, List.length_cons, List.length_nil, if_true, if_false, Bool.false_eq_true, opLen, opAdd, opSub, opIx, Sw_len, Sw_add, Sw_cut, Sw_cps, Its.grab, Its.free, Nat.zero_add, Nat.sub_zero, Nat.reduceAdd, Nat.reduceSub, lit_empty]
  rw [fLc_map (ds := w.map sign) (fun d => match d with | .str x => dw (im1 u v (x.cps.toList.headD 0)) | _ => .none) ?_ ?_ ?_ ?_]
  · have e : (w.map sign).map (fun d => match d with | .str x => dw (im1 u v (x.cps.toList.headD 0)) | _ => PyData.none) = (w.map (im1 u v)).map dw := by
      rw [List.map_map, List.map_map]; rfl
    simp only [fVar, fC, fFn, fBin, fIx, fSl, rdSl, opSl, fPart, partV, fNo, fNil, fCons, dArg, argv_sh, argv_fr, argv_bo, argv_sc, argv_fn, fNilD, fConsD, frz_sh, frz_fr, rd_sh, rd_fr, rdS_sh, rdS_fr, rdS_sc, rdS_bo, rdSs_nil', rdSs_sh, rdSs_sc, Option.map_some, rd2_sh, rdI_sh, fLst, fTup, lstV, tupV, fCB, rdC, fIsi, isiV, fCall, dIf, fSeq, fRet, fRetN, fNx, fCt, fBk, leave, fTru, tru, fBool, boolV, tAnd', tOr', tNot', opMul_l, opMul_r, opFdiv_p, opMod_p, Int.reduceLT, Int.reduceNeg, Int.reduceAdd, Int.reduceSub, Int.reduceMul, vAnd_eq, vOr_eq, andV_bool, orV_bool, bind_ite, seq_ite, turn_ite, rtOf_ite, rtOf_rt, rtOf_nx, opEq_int, opNe_int, opEq_str, opNe_str, opLt_int, opGt_int, opLe_int, opGe_int, isi_int_none, isi_int_bool, isi_int_int, isi_int_str, isi_int_list, isi_int_tuple, isi_bool_none, isi_bool_bool, isi_bool_int, isi_bool_str, isi_bool_list, isi_bool_tuple, isi_str_none, isi_str_bool, isi_str_int, isi_str_str, isi_str_list, isi_str_tuple, isi_list_none, isi_list_bool, isi_list_int, isi_list_str, isi_list_list, isi_list_tuple, isi_tuple_none, isi_tuple_bool, isi_tuple_int, isi_tuple_str, isi_tuple_list, isi_tuple_tuple, vNot, vIf, fIsN, isNV, isN, fChain_eq, truD, decide_true, decide_false, Bool.not_true, Bool.not_false, decide_eq_true_eq, Int.cast_ofNat_Int, Int.reduceLE, Int.reduceEq, Int.reduceToNat, not_true_eq_false, not_false_eq_true, Bool.true_eq_false, dSet, dSto, stS, dSetM, dMv, dAsg, gN, gT, gCons, gNil, gSubL, dPar, stosP, stoP, fConsP, dExpr, fYes, fIr, dFor, dIt, fItems, itemsOf, fApp, appV, fMt_eq, fMt0_eq, mtS_str, mtS0_str, opS_some, tyName, dSub, subV, isOw, fMut, fMut0, mutV, fExt, extV, Out.bind_ok, Out.bind_exc, Out.bind_stuck, Out.seq_nx, Out.seq_rt, Out.seq_bk, Out.seq_ct, Out.seq_exc, Out.seq_stuck, Out.back_nx, Out.back_rt, Out.back_exc, Out.turn_nx, Out.turn_rt, Out.turn_ct, Out.turn_bk, List.getElem?_cons_zero, List.getElem?_cons_succ, List.set_cons_zero, List.set_cons_succ, List.cons_append, List.nil_append, List.map_cons, List.map_nil, List.replicate, List.length_cons, List.length_nil, if_true, if_false, Bool.false_eq_true, opLen, opAdd, opSub, opIx, Sw_len, Sw_add, Sw_cut, Sw_cps, Its.grab, Its.free, Nat.zero_add, Nat.sub_zero, Nat.reduceAdd, Nat.reduceSub, e]
    rw [opJoin_dw _ _ (by rw [← img_flat]; have := img_len hu hv w; omega), ← img_flat]
    simp only [fVar, fC, fFn, fBin, fIx, fSl, rdSl, opSl, fPart, partV, fNo, fNil, fCons, dArg, argv_sh, argv_fr, argv_bo, argv_sc, argv_fn, fNilD, fConsD, frz_sh, frz_fr, rd_sh, rd_fr, rdS_sh, rdS_fr, rdS_sc, rdS_bo, rdSs_nil', rdSs_sh, rdSs_sc, Option.map_some, rd2_sh, rdI_sh, fLst, fTup, lstV, tupV, fCB, rdC, fIsi, isiV, fCall, dIf, fSeq, fRet, fRetN, fNx, fCt, fBk, leave, fTru, tru, fBool, boolV, tAnd', tOr', tNot', opMul_l, opMul_r, opFdiv_p, opMod_p, Int.reduceLT, Int.reduceNeg, Int.reduceAdd, Int.reduceSub, Int.reduceMul, vAnd_eq, vOr_eq, andV_bool, orV_bool, bind_ite, seq_ite, turn_ite, rtOf_ite, rtOf_rt, rtOf_nx, opEq_int, opNe_int, opEq_str, opNe_str, opLt_int, opGt_int, opLe_int, opGe_int, isi_int_none, isi_int_bool, isi_int_int, isi_int_str, isi_int_list, isi_int_tuple, isi_bool_none, isi_bool_bool, isi_bool_int, isi_bool_str, isi_bool_list, isi_bool_tuple, isi_str_none, isi_str_bool, isi_str_int, isi_str_str, isi_str_list, isi_str_tuple, isi_list_none, isi_list_bool, isi_list_int, isi_list_str, isi_list_list, isi_list_tuple, isi_tuple_none, isi_tuple_bool, isi_tuple_int, isi_tuple_str, isi_tuple_list, isi_tuple_tuple, vNot, vIf, fIsN, isNV, isN, fChain_eq, truD, decide_true, decide_false, Bool.not_true, Bool.not_false, decide_eq_true_eq, Int.cast_ofNat_Int, Int.reduceLE, Int.reduceEq, Int.reduceToNat, not_true_eq_false, not_false_eq_true, Bool.true_eq_false, dSet, dSto, stS, dSetM, dMv, dAsg, gN, gT, gCons, gNil, gSubL, dPar, stosP, stoP, fConsP, dExpr, fYes, fIr, dFor, dIt, fItems, itemsOf, fApp, appV, fMt_eq, fMt0_eq, mtS_str, mtS0_str, opS_some, tyName, dSub, subV, isOw, fMut, fMut0, mutV, fExt, extV, Out.bind_ok, Out.bind_exc, Out.bind_stuck, Out.seq_nx, Out.seq_rt, Out.seq_bk, Out.seq_ct, Out.seq_exc, Out.seq_stuck, Out.back_nx, Out.back_rt, Out.back_exc, Out.turn_nx, Out.turn_rt, Out.turn_ct, Out.turn_bk, List.getElem?_cons_zero, List.getElem?_cons_succ, List.set_cons_zero, List.set_cons_succ, List.cons_append, List.nil_append, List.map_cons, List.map_nil, List.replicate, List.length_cons, List.length_nil, if_true, if_false, Bool.false_eq_true, opLen, opAdd, opSub, opIx, Sw_len, Sw_add, Sw_cut, Sw_cps, Its.grab, Its.free, Nat.zero_add, Nat.sub_zero, Nat.reduceAdd, Nat.reduceSub]
  · rfl
  · rfl
  · have := sizeL; simp; omega
  · intro d hd
    obtain ⟨c, hc, rfl⟩ := List.mem_map.mp hd
    refine ⟨[some (.sh (.tuple [IMG, .tuple [dw u, dw v]])), some (.sh (dw w)), some (.sh (sign c))], rfl, rfl, ?_⟩
    simp only [fVar, fC, fFn, fBin, fIx, fSl, rdSl, opSl, fPart, partV, fNo, fNil, fCons, dArg, argv_sh, argv_fr, argv_bo, argv_sc, argv_fn, fNilD, fConsD, frz_sh, frz_fr, rd_sh, rd_fr, rdS_sh, rdS_fr, rdS_sc, rdS_bo, rdSs_nil', rdSs_sh, rdSs_sc, Option.map_some, rd2_sh, rdI_sh, fLst, fTup, lstV, tupV, fCB, rdC, fIsi, isiV, fCall, dIf, fSeq, fRet, fRetN, fNx, fCt, fBk, leave, fTru, tru, fBool, boolV, tAnd', tOr', tNot', opMul_l, opMul_r, opFdiv_p, opMod_p, Int.reduceLT, Int.reduceNeg, Int.reduceAdd, Int.reduceSub, Int.reduceMul, vAnd_eq, vOr_eq, andV_bool, orV_bool, bind_ite, seq_ite, turn_ite, rtOf_ite, rtOf_rt, rtOf_nx, opEq_int, opNe_int, opEq_str, opNe_str, opLt_int, opGt_int, opLe_int, opGe_int, isi_int_none, isi_int_bool, isi_int_int, isi_int_str, isi_int_list, isi_int_tuple, isi_bool_none, isi_bool_bool, isi_bool_int, isi_bool_str, isi_bool_list, isi_bool_tuple, isi_str_none, isi_str_bool, isi_str_int, isi_str_str, isi_str_list, isi_str_tuple, isi_list_none, isi_list_bool, isi_list_int, isi_list_str, isi_list_list, isi_list_tuple, isi_tuple_none, isi_tuple_bool, isi_tuple_int, isi_tuple_str, isi_tuple_list, isi_tuple_tuple, vNot, vIf, fIsN, isNV, isN, fChain_eq, truD, decide_true, decide_false, Bool.not_true, Bool.not_false, decide_eq_true_eq, Int.cast_ofNat_Int, Int.reduceLE, Int.reduceEq, Int.reduceToNat, not_true_eq_false, not_false_eq_true, Bool.true_eq_false, dSet, dSto, stS, dSetM, dMv, dAsg, gN, gT, gCons, gNil, gSubL, dPar, stosP, stoP, fConsP, dExpr, fYes, fIr, dFor, dIt, fItems, itemsOf, fApp, appV, fMt_eq, fMt0_eq, mtS_str, mtS0_str, opS_some, tyName, dSub, subV, isOw, fMut, fMut0, mutV, fExt, extV, Out.bind_ok, Out.bind_exc, Out.bind_stuck, Out.seq_nx, Out.seq_rt, Out.seq_bk, Out.seq_ct, Out.seq_exc, Out.seq_stuck, Out.back_nx, Out.back_rt, Out.back_exc, Out.turn_nx, Out.turn_rt, Out.turn_ct, Out.turn_bk, List.getElem?_cons_zero, List.getElem?_cons_succ, List.set_cons_zero, List.set_cons_succ, List.cons_append, List.nil_append, List.map_cons, List.map_nil, List.replicate, List.length_cons, List.length_nil, if_true, if_false, Bool.false_eq_true, opLen, opAdd, opSub, opIx, Sw_len, Sw_add, Sw_cut, Sw_cps, Its.grab, Its.free, Nat.zero_add, Nat.sub_zero, Nat.reduceAdd, Nat.reduceSub, lit_abc, sign_dw, atI_one, sidx (h c hc)]
    rcases h c hc with rfl | rfl
    · rfl
    · rfl
/-! ### values that claim an overlap -/
def saysN (w : List Nat) (a p : Nat) : Bool := decide (0 < p) && (decide (a + 2 * p < w.length) && decide (sub w a (a + p + 1) = sub w (a + p) (a + 2 * p + 1)))
theorem law_says_pair (w : List Nat) (a p : Nat) : Gv g__law_says [dw w, .tuple [.int a, .int p]] (.sh (.bool (saysN w a p))) := by
  refine gv_rt ?_
  unfold b__law_says
  simp only [fVar, fC, fFn, fBin, fIx, fSl, rdSl, opSl, fPart, partV, fNo, fNil, fCons, dArg, argv_sh, argv_fr, argv_bo, argv_sc, argv_fn, fNilD, fConsD, frz_sh, frz_fr, rd_sh, rd_fr, rdS_sh, rdS_fr, rdS_sc, rdS_bo, rdSs_nil', rdSs_sh, rdSs_sc, Option.map_some, rd2_sh, rdI_sh, fLst, fTup, lstV, tupV, fCB, rdC, fIsi, isiV, fCall, dIf, fSeq, fRet, fRetN, fNx, fCt, fBk, leave, fTru, tru, fBool, boolV, tAnd', tOr', tNot', opMul_l, opMul_r, opFdiv_p, opMod_p, Int.reduceLT, Int.reduceNeg, Int.reduceAdd, Int.reduceSub, Int.reduceMul, vAnd_eq, vOr_eq, andV_bool, orV_bool, bind_ite, seq_ite, turn_ite, rtOf_ite, rtOf_rt, rtOf_nx, opEq_int, opNe_int, opEq_str, opNe_str, opLt_int, opGt_int, opLe_int, opGe_int, isi_int_none, isi_int_bool, isi_int_int, isi_int_str, isi_int_list, isi_int_tuple, isi_bool_none, isi_bool_bool, isi_bool_int, isi_bool_str, isi_bool_list, isi_bool_tuple, isi_str_none, isi_str_bool, isi_str_int, isi_str_str, isi_str_list, isi_str_tuple, isi_list_none, isi_list_bool, isi_list_int, isi_list_str, isi_list_list, isi_list_tuple, isi_tuple_none, isi_tuple_bool, isi_tuple_int, isi_tuple_str, isi_tuple_list, isi_tuple_tuple, vNot, vIf, fIsN, isNV, isN, fChain_eq, truD, decide_true, decide_false, Bool.not_true, Bool.not_false, decide_eq_true_eq, Int.cast_ofNat_Int, Int.reduceLE, Int.reduceEq, Int.reduceToNat, not_true_eq_false, not_false_eq_true, Bool.true_eq_false, dSet, dSto, stS, dSetM, dMv, dAsg, gN, gT, gCons, gNil, gSubL, dPar, stosP, stoP, fConsP, dExpr, fYes, fIr, dFor, dIt, fItems, itemsOf, fApp, appV, fMt_eq, fMt0_eq, mtS_str, mtS0_str, opS_some, tyName, dSub, subV, isOw, fMut, fMut0, mutV, fExt, extV, Out.bind_ok, Out.bind_exc, Out.bind_stuck, Out.seq_nx, Out.seq_rt, Out.seq_bk, Out.seq_ct, Out.seq_exc, Out.seq_stuck, Out.back_nx, Out.back_rt, Out.back_exc, Out.turn_nx, Out.turn_rt, Out.turn_ct, Out.turn_bk, List.getElem?_cons_zero, List.getElem?_cons_succ, List.set_cons_zero, List.set_cons_succ, List.cons_append, List.nil_append, List.map_cons, List.map_nil, List.replicate, List.length_cons, List.length_nil, if_true, if_false, Bool.false_eq_true, opLen, opAdd, opSub, opIx, Sw_len, Sw_add, Sw_cut, Sw_cps, Its.grab, Its.free, Nat.zero_add, Nat.sub_zero, Nat.reduceAdd, Nat.reduceSub, atI_zero]
  have e1 : (a : Int) + p + 1 = ((a + p + 1 : Nat) : Int) := by omega
  have e2 : (a : Int) + 2 * p + 1 = ((a + 2 * p + 1 : Nat) : Int) := by omega
  have e3 : (a : Int) + p = ((a + p : Nat) : Int) := by omega
  rw [e1, e2, e3, cut_nn, cut_nn]
  unfold saysN
  by_cases h1 : 0 < p
  · have h1' : (0 : Int) < p := by omega
    by_cases h2 : a + 2 * p < w.length
    · have h2' : (a : Int) + 2 * p < w.length := by omega
      simp only [h1, h1', h2, h2', if_true, decide_true, Bool.true_and]
    · have h2' : ¬ (a : Int) + 2 * p < w.length := by omega
      simp only [h1, h1', h2, h2', if_true, if_false, decide_true, decide_false, Bool.true_and, Bool.false_and]
  · have h1' : ¬ (0 : Int) < p := by omega
    simp only [h1, h1', if_false, decide_false, Bool.false_and]
theorem law_says_none (w : List Nat) : Gv g__law_says [dw w, .none] (.sh (.bool false)) := by
  refine gv_rt ?_
  unfold b__law_says
  simp only [fVar, fC, fFn, fBin, fIx, fSl, rdSl, opSl, fPart, partV, fNo, fNil, fCons, dArg, argv_sh, argv_fr, argv_bo, argv_sc, argv_fn, fNilD, fConsD, frz_sh, frz_fr, rd_sh, rd_fr, rdS_sh, rdS_fr, rdS_sc, rdS_bo, rdSs_nil', rdSs_sh, rdSs_sc, Option.map_some, rd2_sh, rdI_sh, fLst, fTup, lstV, tupV, fCB, rdC, fIsi, isiV, fCall, dIf, fSeq, fRet, fRetN, fNx, fCt, fBk, leave, fTru, tru, fBool, boolV, tAnd', tOr', tNot', opMul_l, opMul_r, opFdiv_p, opMod_p, Int.reduceLT, Int.reduceNeg, Int.reduceAdd, Int.reduceSub, Int.reduceMul, vAnd_eq, vOr_eq, andV_bool, orV_bool, bind_ite, seq_ite, turn_ite, rtOf_ite, rtOf_rt, rtOf_nx, opEq_int, opNe_int, opEq_str, opNe_str, opLt_int, opGt_int, opLe_int, opGe_int, isi_int_none, isi_int_bool, isi_int_int, isi_int_str, isi_int_list, isi_int_tuple, isi_bool_none, isi_bool_bool, isi_bool_int, isi_bool_str, isi_bool_list, isi_bool_tuple, isi_str_none, isi_str_bool, isi_str_int, isi_str_str, isi_str_list, isi_str_tuple, isi_list_none, isi_list_bool, isi_list_int, isi_list_str, isi_list_list, isi_list_tuple, isi_tuple_none, isi_tuple_bool, isi_tuple_int, isi_tuple_str, isi_tuple_list, isi_tuple_tuple, vNot, vIf, fIsN, isNV, isN, fChain_eq, truD, decide_true, decide_false, Bool.not_true, Bool.not_false, decide_eq_true_eq, Int.cast_ofNat_Int, Int.reduceLE, Int.reduceEq, Int.reduceToNat, not_true_eq_false, not_false_eq_true, Bool.true_eq_false, dSet, dSto, stS, dSetM, dMv, dAsg, gN, gT, gCons, gNil, gSubL, dPar, stosP, stoP, fConsP, dExpr, fYes, fIr, dFor, dIt, fItems, itemsOf, fApp, appV, fMt_eq, fMt0_eq, mtS_str, mtS0_str, opS_some, tyName, dSub, subV, isOw, fMut, fMut0, mutV, fExt, extV, Out.bind_ok, Out.bind_exc, Out.bind_stuck, Out.seq_nx, Out.seq_rt, Out.seq_bk, Out.seq_ct, Out.seq_exc, Out.seq_stuck, Out.back_nx, Out.back_rt, Out.back_exc, Out.turn_nx, Out.turn_rt, Out.turn_ct, Out.turn_bk, List.getElem?_cons_zero, List.getElem?_cons_succ, List.set_cons_zero, List.set_cons_succ, List.cons_append, List.nil_append, List.map_cons, List.map_nil, List.replicate, List.length_cons, List.length_nil, if_true, if_false, Bool.false_eq_true, opLen, opAdd, opSub, opIx, Sw_len, Sw_add, Sw_cut, Sw_cps, Its.grab, Its.free, Nat.zero_add, Nat.sub_zero, Nat.reduceAdd, Nat.reduceSub]
theorem law_says_list (w : List Nat) (ds : List D) : Gv g__law_says [dw w, .list ds] (.sh (.bool false)) := by
  refine gv_rt ?_
  unfold b__law_says
  simp only [fVar, fC, fFn, fBin, fIx, fSl, rdSl, opSl, fPart, partV, fNo, fNil, fCons, dArg, argv_sh, argv_fr, argv_bo, argv_sc, argv_fn, fNilD, fConsD, frz_sh, frz_fr, rd_sh, rd_fr, rdS_sh, rdS_fr, rdS_sc, rdS_bo, rdSs_nil', rdSs_sh, rdSs_sc, Option.map_some, rd2_sh, rdI_sh, fLst, fTup, lstV, tupV, fCB, rdC, fIsi, isiV, fCall, dIf, fSeq, fRet, fRetN, fNx, fCt, fBk, leave, fTru, tru, fBool, boolV, tAnd', tOr', tNot', opMul_l, opMul_r, opFdiv_p, opMod_p, Int.reduceLT, Int.reduceNeg, Int.reduceAdd, Int.reduceSub, Int.reduceMul, vAnd_eq, vOr_eq, andV_bool, orV_bool, bind_ite, seq_ite, turn_ite, rtOf_ite, rtOf_rt, rtOf_nx, opEq_int, opNe_int, opEq_str, opNe_str, opLt_int, opGt_int, opLe_int, opGe_int, isi_int_none, isi_int_bool, isi_int_int, isi_int_str, isi_int_list, isi_int_tuple, isi_bool_none, isi_bool_bool, isi_bool_int, isi_bool_str, isi_bool_list, isi_bool_tuple, isi_str_none, isi_str_bool, isi_str_int, isi_str_str, isi_str_list, isi_str_tuple, isi_list_none, isi_list_bool, isi_list_int, isi_list_str, isi_list_list, isi_list_tuple, isi_tuple_none, isi_tuple_bool, isi_tuple_int, isi_tuple_str, isi_tuple_list, isi_tuple_tuple, vNot, vIf, fIsN, isNV, isN, fChain_eq, truD, decide_true, decide_false, Bool.not_true, Bool.not_false, decide_eq_true_eq, Int.cast_ofNat_Int, Int.reduceLE, Int.reduceEq, Int.reduceToNat, not_true_eq_false, not_false_eq_true, Bool.true_eq_false, dSet, dSto, stS, dSetM, dMv, dAsg, gN, gT, gCons, gNil, gSubL, dPar, stosP, stoP, fConsP, dExpr, fYes, fIr, dFor, dIt, fItems, itemsOf, fApp, appV, fMt_eq, fMt0_eq, mtS_str, mtS0_str, opS_some, tyName, dSub, subV, isOw, fMut, fMut0, mutV, fExt, extV, Out.bind_ok, Out.bind_exc, Out.bind_stuck, Out.seq_nx, Out.seq_rt, Out.seq_bk, Out.seq_ct, Out.seq_exc, Out.seq_stuck, Out.back_nx, Out.back_rt, Out.back_exc, Out.turn_nx, Out.turn_rt, Out.turn_ct, Out.turn_bk, List.getElem?_cons_zero, List.getElem?_cons_succ, List.set_cons_zero, List.set_cons_succ, List.cons_append, List.nil_append, List.map_cons, List.map_nil, List.replicate, List.length_cons, List.length_nil, if_true, if_false, Bool.false_eq_true, opLen, opAdd, opSub, opIx, Sw_len, Sw_add, Sw_cut, Sw_cps, Its.grab, Its.free, Nat.zero_add, Nat.sub_zero, Nat.reduceAdd, Nat.reduceSub]
theorem law_says_three (w : List Nat) (a b c : D) : Gv g__law_says [dw w, .tuple [a, b, c]] (.sh (.bool false)) := by
  refine gv_rt ?_
  unfold b__law_says
  simp only [fVar, fC, fFn, fBin, fIx, fSl, rdSl, opSl, fPart, partV, fNo, fNil, fCons, dArg, argv_sh, argv_fr, argv_bo, argv_sc, argv_fn, fNilD, fConsD, frz_sh, frz_fr, rd_sh, rd_fr, rdS_sh, rdS_fr, rdS_sc, rdS_bo, rdSs_nil', rdSs_sh, rdSs_sc, Option.map_some, rd2_sh, rdI_sh, fLst, fTup, lstV, tupV, fCB, rdC, fIsi, isiV, fCall, dIf, fSeq, fRet, fRetN, fNx, fCt, fBk, leave, fTru, tru, fBool, boolV, tAnd', tOr', tNot', opMul_l, opMul_r, opFdiv_p, opMod_p, Int.reduceLT, Int.reduceNeg, Int.reduceAdd, Int.reduceSub, Int.reduceMul, vAnd_eq, vOr_eq, andV_bool, orV_bool, bind_ite, seq_ite, turn_ite, rtOf_ite, rtOf_rt, rtOf_nx, opEq_int, opNe_int, opEq_str, opNe_str, opLt_int, opGt_int, opLe_int, opGe_int, isi_int_none, isi_int_bool, isi_int_int, isi_int_str, isi_int_list, isi_int_tuple, isi_bool_none, isi_bool_bool, isi_bool_int, isi_bool_str, isi_bool_list, isi_bool_tuple, isi_str_none, isi_str_bool, isi_str_int, isi_str_str, isi_str_list, isi_str_tuple, isi_list_none, isi_list_bool, isi_list_int, isi_list_str, isi_list_list, isi_list_tuple, isi_tuple_none, isi_tuple_bool, isi_tuple_int, isi_tuple_str, isi_tuple_list, isi_tuple_tuple, vNot, vIf, fIsN, isNV, isN, fChain_eq, truD, decide_true, decide_false, Bool.not_true, Bool.not_false, decide_eq_true_eq, Int.cast_ofNat_Int, Int.reduceLE, Int.reduceEq, Int.reduceToNat, not_true_eq_false, not_false_eq_true, Bool.true_eq_false, dSet, dSto, stS, dSetM, dMv, dAsg, gN, gT, gCons, gNil, gSubL, dPar, stosP, stoP, fConsP, dExpr, fYes, fIr, dFor, dIt, fItems, itemsOf, fApp, appV, fMt_eq, fMt0_eq, mtS_str, mtS0_str, opS_some, tyName, dSub, subV, isOw, fMut, fMut0, mutV, fExt, extV, Out.bind_ok, Out.bind_exc, Out.bind_stuck, Out.seq_nx, Out.seq_rt, Out.seq_bk, Out.seq_ct, Out.seq_exc, Out.seq_stuck, Out.back_nx, Out.back_rt, Out.back_exc, Out.turn_nx, Out.turn_rt, Out.turn_ct, Out.turn_bk, List.getElem?_cons_zero, List.getElem?_cons_succ, List.set_cons_zero, List.set_cons_succ, List.cons_append, List.nil_append, List.map_cons, List.map_nil, List.replicate, List.length_cons, List.length_nil, if_true, if_false, Bool.false_eq_true, opLen, opAdd, opSub, opIx, Sw_len, Sw_add, Sw_cut, Sw_cps, Its.grab, Its.free, Nat.zero_add, Nat.sub_zero, Nat.reduceAdd, Nat.reduceSub]
theorem law_says_bool (w : List Nat) (a : Bool) (b : D) : Gv g__law_says [dw w, .tuple [.bool a, b]] (.sh (.bool false)) := by
  refine gv_rt ?_
  unfold b__law_says
  simp only [fVar, fC, fFn, fBin, fIx, fSl, rdSl, opSl, fPart, partV, fNo, fNil, fCons, dArg, argv_sh, argv_fr, argv_bo, argv_sc, argv_fn, fNilD, fConsD, frz_sh, frz_fr, rd_sh, rd_fr, rdS_sh, rdS_fr, rdS_sc, rdS_bo, rdSs_nil', rdSs_sh, rdSs_sc, Option.map_some, rd2_sh, rdI_sh, fLst, fTup, lstV, tupV, fCB, rdC, fIsi, isiV, fCall, dIf, fSeq, fRet, fRetN, fNx, fCt, fBk, leave, fTru, tru, fBool, boolV, tAnd', tOr', tNot', opMul_l, opMul_r, opFdiv_p, opMod_p, Int.reduceLT, Int.reduceNeg, Int.reduceAdd, Int.reduceSub, Int.reduceMul, vAnd_eq, vOr_eq, andV_bool, orV_bool, bind_ite, seq_ite, turn_ite, rtOf_ite, rtOf_rt, rtOf_nx, opEq_int, opNe_int, opEq_str, opNe_str, opLt_int, opGt_int, opLe_int, opGe_int, isi_int_none, isi_int_bool, isi_int_int, isi_int_str, isi_int_list, isi_int_tuple, isi_bool_none, isi_bool_bool, isi_bool_int, isi_bool_str, isi_bool_list, isi_bool_tuple, isi_str_none, isi_str_bool, isi_str_int, isi_str_str, isi_str_list, isi_str_tuple, isi_list_none, isi_list_bool, isi_list_int, isi_list_str, isi_list_list, isi_list_tuple, isi_tuple_none, isi_tuple_bool, isi_tuple_int, isi_tuple_str, isi_tuple_list, isi_tuple_tuple, vNot, vIf, fIsN, isNV, isN, fChain_eq, truD, decide_true, decide_false, Bool.not_true, Bool.not_false, decide_eq_true_eq, Int.cast_ofNat_Int, Int.reduceLE, Int.reduceEq, Int.reduceToNat, not_true_eq_false, not_false_eq_true, Bool.true_eq_false, dSet, dSto, stS, dSetM, dMv, dAsg, gN, gT, gCons, gNil, gSubL, dPar, stosP, stoP, fConsP, dExpr, fYes, fIr, dFor, dIt, fItems, itemsOf, fApp, appV, fMt_eq, fMt0_eq, mtS_str, mtS0_str, opS_some, tyName, dSub, subV, isOw, fMut, fMut0, mutV, fExt, extV, Out.bind_ok, Out.bind_exc, Out.bind_stuck, Out.seq_nx, Out.seq_rt, Out.seq_bk, Out.seq_ct, Out.seq_exc, Out.seq_stuck, Out.back_nx, Out.back_rt, Out.back_exc, Out.turn_nx, Out.turn_rt, Out.turn_ct, Out.turn_bk, List.getElem?_cons_zero, List.getElem?_cons_succ, List.set_cons_zero, List.set_cons_succ, List.cons_append, List.nil_append, List.map_cons, List.map_nil, List.replicate, List.length_cons, List.length_nil, if_true, if_false, Bool.false_eq_true, opLen, opAdd, opSub, opIx, Sw_len, Sw_add, Sw_cut, Sw_cps, Its.grab, Its.free, Nat.zero_add, Nat.sub_zero, Nat.reduceAdd, Nat.reduceSub, atI_zero]
theorem paper_none {u v : List Nat} (h : Ok u v) : Gv g_is_overlap_paper [imD u v, .none] (.sh (.bool false)) := by
  refine gv_rt ?_
  unfold b_is_overlap_paper
  simp only [fVar, fC, fFn, fBin, fIx, fSl, rdSl, opSl, fPart, partV, fNo, fNil, fCons, dArg, argv_sh, argv_fr, argv_bo, argv_sc, argv_fn, fNilD, fConsD, frz_sh, frz_fr, rd_sh, rd_fr, rdS_sh, rdS_fr, rdS_sc, rdS_bo, rdSs_nil', rdSs_sh, rdSs_sc, Option.map_some, rd2_sh, rdI_sh, fLst, fTup, lstV, tupV, fCB, rdC, fIsi, isiV, fCall, dIf, fSeq, fRet, fRetN, fNx, fCt, fBk, leave, fTru, tru, fBool, boolV, tAnd', tOr', tNot', opMul_l, opMul_r, opFdiv_p, opMod_p, Int.reduceLT, Int.reduceNeg, Int.reduceAdd, Int.reduceSub, Int.reduceMul, vAnd_eq, vOr_eq, andV_bool, orV_bool, bind_ite, seq_ite, turn_ite, rtOf_ite, rtOf_rt, rtOf_nx, opEq_int, opNe_int, opEq_str, opNe_str, opLt_int, opGt_int, opLe_int, opGe_int, isi_int_none, isi_int_bool, isi_int_int, isi_int_str, isi_int_list, isi_int_tuple, isi_bool_none, isi_bool_bool, isi_bool_int, isi_bool_str, isi_bool_list, isi_bool_tuple, isi_str_none, isi_str_bool, isi_str_int, isi_str_str, isi_str_list, isi_str_tuple, isi_list_none, isi_list_bool, isi_list_int, isi_list_str, isi_list_list, isi_list_tuple, isi_tuple_none, isi_tuple_bool, isi_tuple_int, isi_tuple_str, isi_tuple_list, isi_tuple_tuple, vNot, vIf, fIsN, isNV, isN, fChain_eq, truD, decide_true, decide_false, Bool.not_true, Bool.not_false, decide_eq_true_eq, Int.cast_ofNat_Int, Int.reduceLE, Int.reduceEq, Int.reduceToNat, not_true_eq_false, not_false_eq_true, Bool.true_eq_false, dSet, dSto, stS, dSetM, dMv, dAsg, gN, gT, gCons, gNil, gSubL, dPar, stosP, stoP, fConsP, dExpr, fYes, fIr, dFor, dIt, fItems, itemsOf, fApp, appV, fMt_eq, fMt0_eq, mtS_str, mtS0_str, opS_some, tyName, dSub, subV, isOw, fMut, fMut0, mutV, fExt, extV, Out.bind_ok, Out.bind_exc, Out.bind_stuck, Out.seq_nx, Out.seq_rt, Out.seq_bk, Out.seq_ct, Out.seq_exc, Out.seq_stuck, Out.back_nx, Out.back_rt, Out.back_exc, Out.turn_nx, Out.turn_rt, Out.turn_ct, Out.turn_bk, List.getElem?_cons_zero, List.getElem?_cons_succ, List.set_cons_zero, List.set_cons_succ, List.cons_append, List.nil_append, List.map_cons, List.map_nil, List.replicate, List.length_cons, List.length_nil, if_true, if_false, Bool.false_eq_true, opLen, opAdd, opSub, opIx, Sw_len, Sw_add, Sw_cut, Sw_cps, Its.grab, Its.free, Nat.zero_add, Nat.sub_zero, Nat.reduceAdd, Nat.reduceSub, call1 (check_two_ok h)]
theorem paper_list {u v : List Nat} (h : Ok u v) (ds : List D) : Gv g_is_overlap_paper [imD u v, .list ds] (.sh (.bool false)) := by
  refine gv_rt ?_
  unfold b_is_overlap_paper
  simp only [fVar, fC, fFn, fBin, fIx, fSl, rdSl, opSl, fPart, partV, fNo, fNil, fCons, dArg, argv_sh, argv_fr, argv_bo, argv_sc, argv_fn, fNilD, fConsD, frz_sh, frz_fr, rd_sh, rd_fr, rdS_sh, rdS_fr, rdS_sc, rdS_bo, rdSs_nil', rdSs_sh, rdSs_sc, Option.map_some, rd2_sh, rdI_sh, fLst, fTup, lstV, tupV, fCB, rdC, fIsi, isiV, fCall, dIf, fSeq, fRet, fRetN, fNx, fCt, fBk, leave, fTru, tru, fBool, boolV, tAnd', tOr', tNot', opMul_l, opMul_r, opFdiv_p, opMod_p, Int.reduceLT, Int.reduceNeg, Int.reduceAdd, Int.reduceSub, Int.reduceMul, vAnd_eq, vOr_eq, andV_bool, orV_bool, bind_ite, seq_ite, turn_ite, rtOf_ite, rtOf_rt, rtOf_nx, opEq_int, opNe_int, opEq_str, opNe_str, opLt_int, opGt_int, opLe_int, opGe_int, isi_int_none, isi_int_bool, isi_int_int, isi_int_str, isi_int_list, isi_int_tuple, isi_bool_none, isi_bool_bool, isi_bool_int, isi_bool_str, isi_bool_list, isi_bool_tuple, isi_str_none, isi_str_bool, isi_str_int, isi_str_str, isi_str_list, isi_str_tuple, isi_list_none, isi_list_bool, isi_list_int, isi_list_str, isi_list_list, isi_list_tuple, isi_tuple_none, isi_tuple_bool, isi_tuple_int, isi_tuple_str, isi_tuple_list, isi_tuple_tuple, vNot, vIf, fIsN, isNV, isN, fChain_eq, truD, decide_true, decide_false, Bool.not_true, Bool.not_false, decide_eq_true_eq, Int.cast_ofNat_Int, Int.reduceLE, Int.reduceEq, Int.reduceToNat, not_true_eq_false, not_false_eq_true, Bool.true_eq_false, dSet, dSto, stS, dSetM, dMv, dAsg, gN, gT, gCons, gNil, gSubL, dPar, stosP, stoP, fConsP, dExpr, fYes, fIr, dFor, dIt, fItems, itemsOf, fApp, appV, fMt_eq, fMt0_eq, mtS_str, mtS0_str, opS_some, tyName, dSub, subV, isOw, fMut, fMut0, mutV, fExt, extV, Out.bind_ok, Out.bind_exc, Out.bind_stuck, Out.seq_nx, Out.seq_rt, Out.seq_bk, Out.seq_ct, Out.seq_exc, Out.seq_stuck, Out.back_nx, Out.back_rt, Out.back_exc, Out.turn_nx, Out.turn_rt, Out.turn_ct, Out.turn_bk, List.getElem?_cons_zero, List.getElem?_cons_succ, List.set_cons_zero, List.set_cons_succ, List.cons_append, List.nil_append, List.map_cons, List.map_nil, List.replicate, List.length_cons, List.length_nil, if_true, if_false, Bool.false_eq_true, opLen, opAdd, opSub, opIx, Sw_len, Sw_add, Sw_cut, Sw_cps, Its.grab, Its.free, Nat.zero_add, Nat.sub_zero, Nat.reduceAdd, Nat.reduceSub, call1 (check_two_ok h)]
theorem paper_three {u v : List Nat} (h : Ok u v) (a b c : D) : Gv g_is_overlap_paper [imD u v, .tuple [a, b, c]] (.sh (.bool false)) := by
  refine gv_rt ?_
  unfold b_is_overlap_paper
  simp only [fVar, fC, fFn, fBin, fIx, fSl, rdSl, opSl, fPart, partV, fNo, fNil, fCons, dArg, argv_sh, argv_fr, argv_bo, argv_sc, argv_fn, fNilD, fConsD, frz_sh, frz_fr, rd_sh, rd_fr, rdS_sh, rdS_fr, rdS_sc, rdS_bo, rdSs_nil', rdSs_sh, rdSs_sc, Option.map_some, rd2_sh, rdI_sh, fLst, fTup, lstV, tupV, fCB, rdC, fIsi, isiV, fCall, dIf, fSeq, fRet, fRetN, fNx, fCt, fBk, leave, fTru, tru, fBool, boolV, tAnd', tOr', tNot', opMul_l, opMul_r, opFdiv_p, opMod_p, Int.reduceLT, Int.reduceNeg, Int.reduceAdd, Int.reduceSub, Int.reduceMul, vAnd_eq, vOr_eq, andV_bool, orV_bool, bind_ite, seq_ite, turn_ite, rtOf_ite, rtOf_rt, rtOf_nx, opEq_int, opNe_int, opEq_str, opNe_str, opLt_int, opGt_int, opLe_int, opGe_int, isi_int_none, isi_int_bool, isi_int_int, isi_int_str, isi_int_list, isi_int_tuple, isi_bool_none, isi_bool_bool, isi_bool_int, isi_bool_str, isi_bool_list, isi_bool_tuple, isi_str_none, isi_str_bool, isi_str_int, isi_str_str, isi_str_list, isi_str_tuple, isi_list_none, isi_list_bool, isi_list_int, isi_list_str, isi_list_list, isi_list_tuple, isi_tuple_none, isi_tuple_bool, isi_tuple_int, isi_tuple_str, isi_tuple_list, isi_tuple_tuple, vNot, vIf, fIsN, isNV, isN, fChain_eq, truD, decide_true, decide_false, Bool.not_true, Bool.not_false, decide_eq_true_eq, Int.cast_ofNat_Int, Int.reduceLE, Int.reduceEq, Int.reduceToNat, not_true_eq_false, not_false_eq_true, Bool.true_eq_false, dSet, dSto, stS, dSetM, dMv, dAsg, gN, gT, gCons, gNil, gSubL, dPar, stosP, stoP, fConsP, dExpr, fYes, fIr, dFor, dIt, fItems, itemsOf, fApp, appV, fMt_eq, fMt0_eq, mtS_str, mtS0_str, opS_some, tyName, dSub, subV, isOw, fMut, fMut0, mutV, fExt, extV, Out.bind_ok, Out.bind_exc, Out.bind_stuck, Out.seq_nx, Out.seq_rt, Out.seq_bk, Out.seq_ct, Out.seq_exc, Out.seq_stuck, Out.back_nx, Out.back_rt, Out.back_exc, Out.turn_nx, Out.turn_rt, Out.turn_ct, Out.turn_bk, List.getElem?_cons_zero, List.getElem?_cons_succ, List.set_cons_zero, List.set_cons_succ, List.cons_append, List.nil_append, List.map_cons, List.map_nil, List.replicate, List.length_cons, List.length_nil, if_true, if_false, Bool.false_eq_true, opLen, opAdd, opSub, opIx, Sw_len, Sw_add, Sw_cut, Sw_cps, Its.grab, Its.free, Nat.zero_add, Nat.sub_zero, Nat.reduceAdd, Nat.reduceSub, call1 (check_two_ok h)]
theorem paper_bool {u v : List Nat} (h : Ok u v) (a : Bool) (b : Nat) : Gv g_is_overlap_paper [imD u v, .tuple [.bool a, natD b]] (.sh (.bool false)) := by
  refine gv_rt ?_
  unfold b_is_overlap_paper
  simp only [fVar, fC, fFn, fBin, fIx, fSl, rdSl, opSl, fPart, partV, fNo, fNil, fCons, dArg, argv_sh, argv_fr, argv_bo, argv_sc, argv_fn, fNilD, fConsD, frz_sh, frz_fr, rd_sh, rd_fr, rdS_sh, rdS_fr, rdS_sc, rdS_bo, rdSs_nil', rdSs_sh, rdSs_sc, Option.map_some, rd2_sh, rdI_sh, fLst, fTup, lstV, tupV, fCB, rdC, fIsi, isiV, fCall, dIf, fSeq, fRet, fRetN, fNx, fCt, fBk, leave, fTru, tru, fBool, boolV, tAnd', tOr', tNot', opMul_l, opMul_r, opFdiv_p, opMod_p, Int.reduceLT, Int.reduceNeg, Int.reduceAdd, Int.reduceSub, Int.reduceMul, vAnd_eq, vOr_eq, andV_bool, orV_bool, bind_ite, seq_ite, turn_ite, rtOf_ite, rtOf_rt, rtOf_nx, opEq_int, opNe_int, opEq_str, opNe_str, opLt_int, opGt_int, opLe_int, opGe_int, isi_int_none, isi_int_bool, isi_int_int, isi_int_str, isi_int_list, isi_int_tuple, isi_bool_none, isi_bool_bool, isi_bool_int, isi_bool_str, isi_bool_list, isi_bool_tuple, isi_str_none, isi_str_bool, isi_str_int, isi_str_str, isi_str_list, isi_str_tuple, isi_list_none, isi_list_bool, isi_list_int, isi_list_str, isi_list_list, isi_list_tuple, isi_tuple_none, isi_tuple_bool, isi_tuple_int, isi_tuple_str, isi_tuple_list, isi_tuple_tuple, vNot, vIf, fIsN, isNV, isN, fChain_eq, truD, decide_true, decide_false, Bool.not_true, Bool.not_false, decide_eq_true_eq, Int.cast_ofNat_Int, Int.reduceLE, Int.reduceEq, Int.reduceToNat, not_true_eq_false, not_false_eq_true, Bool.true_eq_false, dSet, dSto, stS, dSetM, dMv, dAsg, gN, gT, gCons, gNil, gSubL, dPar, stosP, stoP, fConsP, dExpr, fYes, fIr, dFor, dIt, fItems, itemsOf, fApp, appV, fMt_eq, fMt0_eq, mtS_str, mtS0_str, opS_some, tyName, dSub, subV, isOw, fMut, fMut0, mutV, fExt, extV, Out.bind_ok, Out.bind_exc, Out.bind_stuck, Out.seq_nx, Out.seq_rt, Out.seq_bk, Out.seq_ct, Out.seq_exc, Out.seq_stuck, Out.back_nx, Out.back_rt, Out.back_exc, Out.turn_nx, Out.turn_rt, Out.turn_ct, Out.turn_bk, List.getElem?_cons_zero, List.getElem?_cons_succ, List.set_cons_zero, List.set_cons_succ, List.cons_append, List.nil_append, List.map_cons, List.map_nil, List.replicate, List.length_cons, List.length_nil, if_true, if_false, Bool.false_eq_true, opLen, opAdd, opSub, opIx, Sw_len, Sw_add, Sw_cut, Sw_cps, Its.grab, Its.free, Nat.zero_add, Nat.sub_zero, Nat.reduceAdd, Nat.reduceSub, call1 (check_two_ok h)]
  rw [fLc_map (ds := [.bool a, natD b]) (fun d => match d with | .bool _ => .bool false | _ => .bool true) ?_ ?_ ?_ ?_]
  · simp only [fVar, fC, fFn, fBin, fIx, fSl, rdSl, opSl, fPart, partV, fNo, fNil, fCons, dArg, argv_sh, argv_fr, argv_bo, argv_sc, argv_fn, fNilD, fConsD, frz_sh, frz_fr, rd_sh, rd_fr, rdS_sh, rdS_fr, rdS_sc, rdS_bo, rdSs_nil', rdSs_sh, rdSs_sc, Option.map_some, rd2_sh, rdI_sh, fLst, fTup, lstV, tupV, fCB, rdC, fIsi, isiV, fCall, dIf, fSeq, fRet, fRetN, fNx, fCt, fBk, leave, fTru, tru, fBool, boolV, tAnd', tOr', tNot', opMul_l, opMul_r, opFdiv_p, opMod_p, Int.reduceLT, Int.reduceNeg, Int.reduceAdd, Int.reduceSub, Int.reduceMul, vAnd_eq, vOr_eq, andV_bool, orV_bool, bind_ite, seq_ite, turn_ite, rtOf_ite, rtOf_rt, rtOf_nx, opEq_int, opNe_int, opEq_str, opNe_str, opLt_int, opGt_int, opLe_int, opGe_int, isi_int_none, isi_int_bool, isi_int_int, isi_int_str, isi_int_list, isi_int_tuple, isi_bool_none, isi_bool_bool, isi_bool_int, isi_bool_str, isi_bool_list, isi_bool_tuple, isi_str_none, isi_str_bool, isi_str_int, isi_str_str, isi_str_list, isi_str_tuple, isi_list_none, isi_list_bool, isi_list_int, isi_list_str, isi_list_list, isi_list_tuple, isi_tuple_none, isi_tuple_bool, isi_tuple_int, isi_tuple_str, isi_tuple_list, isi_tuple_tuple, vNot, vIf, fIsN, isNV, isN, fChain_eq, truD, decide_true, decide_false, Bool.not_true, Bool.not_false, decide_eq_true_eq, Int.cast_ofNat_Int, Int.reduceLE, Int.reduceEq, Int.reduceToNat, not_true_eq_false, not_false_eq_true, Bool.true_eq_false, dSet, dSto, stS, dSetM, dMv, dAsg, gN, gT, gCons, gNil, gSubL, dPar, stosP, stoP, fConsP, dExpr, fYes, fIr, dFor, dIt, fItems, itemsOf, fApp, appV, fMt_eq, fMt0_eq, mtS_str, mtS0_str, opS_some, tyName, dSub, subV, isOw, fMut, fMut0, mutV, fExt, extV, Out.bind_ok, Out.bind_exc, Out.bind_stuck, Out.seq_nx, Out.seq_rt, Out.seq_bk, Out.seq_ct, Out.seq_exc, Out.seq_stuck, Out.back_nx, Out.back_rt, Out.back_exc, Out.turn_nx, Out.turn_rt, Out.turn_ct, Out.turn_bk, List.getElem?_cons_zero, List.getElem?_cons_succ, List.set_cons_zero, List.set_cons_succ, List.cons_append, List.nil_append, List.map_cons, List.map_nil, List.replicate, List.length_cons, List.length_nil, if_true, if_false, Bool.false_eq_true, opLen, opAdd, opSub, opIx, Sw_len, Sw_add, Sw_cut, Sw_cps, Its.grab, Its.free, Nat.zero_add, Nat.sub_zero, Nat.reduceAdd, Nat.reduceSub, opAll, boolsOf, natD]
    rfl
  · rfl
  · rfl
  · have := sizeL; simp; omega
  · intro d hd
    rcases List.mem_cons.mp hd with rfl | hd
    · refine ⟨[some (.sh (imD u v)), some (.sh (.tuple [.bool a, natD b])), some (.sh (.bool a))], rfl, rfl, ?_⟩
      simp only [fVar, fC, fFn, fBin, fIx, fSl, rdSl, opSl, fPart, partV, fNo, fNil, fCons, dArg, argv_sh, argv_fr, argv_bo, argv_sc, argv_fn, fNilD, fConsD, frz_sh, frz_fr, rd_sh, rd_fr, rdS_sh, rdS_fr, rdS_sc, rdS_bo, rdSs_nil', rdSs_sh, rdSs_sc, Option.map_some, rd2_sh, rdI_sh, fLst, fTup, lstV, tupV, fCB, rdC, fIsi, isiV, fCall, dIf, fSeq, fRet, fRetN, fNx, fCt, fBk, leave, fTru, tru, fBool, boolV, tAnd', tOr', tNot', opMul_l, opMul_r, opFdiv_p, opMod_p, Int.reduceLT, Int.reduceNeg, Int.reduceAdd, Int.reduceSub, Int.reduceMul, vAnd_eq, vOr_eq, andV_bool, orV_bool, bind_ite, seq_ite, turn_ite, rtOf_ite, rtOf_rt, rtOf_nx, opEq_int, opNe_int, opEq_str, opNe_str, opLt_int, opGt_int, opLe_int, opGe_int, isi_int_none, isi_int_bool, isi_int_int, isi_int_str, isi_int_list, isi_int_tuple, isi_bool_none, isi_bool_bool, isi_bool_int, isi_bool_str, isi_bool_list, isi_bool_tuple, isi_str_none, isi_str_bool, isi_str_int, isi_str_str, isi_str_list, isi_str_tuple, isi_list_none, isi_list_bool, isi_list_int, isi_list_str, isi_list_list, isi_list_tuple, isi_tuple_none, isi_tuple_bool, isi_tuple_int, isi_tuple_str, isi_tuple_list, isi_tuple_tuple, vNot, vIf, fIsN, isNV, isN, fChain_eq, truD, decide_true, decide_false, Bool.not_true, Bool.not_false, decide_eq_true_eq, Int.cast_ofNat_Int, Int.reduceLE, Int.reduceEq, Int.reduceToNat, not_true_eq_false, not_false_eq_true, Bool.true_eq_false, dSet, dSto, stS, dSetM, dMv, dAsg, gN, gT, gCons, gNil, gSubL, dPar, stosP, stoP, fConsP, dExpr, fYes, fIr, dFor, dIt, fItems, itemsOf, fApp, appV, fMt_eq, fMt0_eq, mtS_str, mtS0_str, opS_some, tyName, dSub, subV, isOw, fMut, fMut0, mutV, fExt, extV, Out.bind_ok, Out.bind_exc, Out.bind_stuck, Out.seq_nx, Out.seq_rt, Out.seq_bk, Out.seq_ct, Out.seq_exc, Out.seq_stuck, Out.back_nx, Out.back_rt, Out.back_exc, Out.turn_nx, Out.turn_rt, Out.turn_ct, Out.turn_bk, List.getElem?_cons_zero, List.getElem?_cons_succ, List.set_cons_zero, List.set_cons_succ, List.cons_append, List.nil_append, List.map_cons, List.map_nil, List.replicate, List.length_cons, List.length_nil, if_true, if_false, Bool.false_eq_true, opLen, opAdd, opSub, opIx, Sw_len, Sw_add, Sw_cut, Sw_cps, Its.grab, Its.free, Nat.zero_add, Nat.sub_zero, Nat.reduceAdd, Nat.reduceSub, call1 (is_count_bool a)]
    · rcases List.mem_cons.mp hd with rfl | hd
      · refine ⟨[some (.sh (imD u v)), some (.sh (.tuple [.bool a, natD b])), some (.sh (natD b))], rfl, rfl, ?_⟩
        have h0 : (0 : Int) ≤ b := by omega
        unfold natD
        simp only [fVar, fC, fFn, fBin, fIx, fSl, rdSl, opSl, fPart, partV, fNo, fNil, fCons, dArg, argv_sh, argv_fr, argv_bo, argv_sc, argv_fn, fNilD, fConsD, frz_sh, frz_fr, rd_sh, rd_fr, rdS_sh, rdS_fr, rdS_sc, rdS_bo, rdSs_nil', rdSs_sh, rdSs_sc, Option.map_some, rd2_sh, rdI_sh, fLst, fTup, lstV, tupV, fCB, rdC, fIsi, isiV, fCall, dIf, fSeq, fRet, fRetN, fNx, fCt, fBk, leave, fTru, tru, fBool, boolV, tAnd', tOr', tNot', opMul_l, opMul_r, opFdiv_p, opMod_p, Int.reduceLT, Int.reduceNeg, Int.reduceAdd, Int.reduceSub, Int.reduceMul, vAnd_eq, vOr_eq, andV_bool, orV_bool, bind_ite, seq_ite, turn_ite, rtOf_ite, rtOf_rt, rtOf_nx, opEq_int, opNe_int, opEq_str, opNe_str, opLt_int, opGt_int, opLe_int, opGe_int, isi_int_none, isi_int_bool, isi_int_int, isi_int_str, isi_int_list, isi_int_tuple, isi_bool_none, isi_bool_bool, isi_bool_int, isi_bool_str, isi_bool_list, isi_bool_tuple, isi_str_none, isi_str_bool, isi_str_int, isi_str_str, isi_str_list, isi_str_tuple, isi_list_none, isi_list_bool, isi_list_int, isi_list_str, isi_list_list, isi_list_tuple, isi_tuple_none, isi_tuple_bool, isi_tuple_int, isi_tuple_str, isi_tuple_list, isi_tuple_tuple, vNot, vIf, fIsN, isNV, isN, fChain_eq, truD, decide_true, decide_false, Bool.not_true, Bool.not_false, decide_eq_true_eq, Int.cast_ofNat_Int, Int.reduceLE, Int.reduceEq, Int.reduceToNat, not_true_eq_false, not_false_eq_true, Bool.true_eq_false, dSet, dSto, stS, dSetM, dMv, dAsg, gN, gT, gCons, gNil, gSubL, dPar, stosP, stoP, fConsP, dExpr, fYes, fIr, dFor, dIt, fItems, itemsOf, fApp, appV, fMt_eq, fMt0_eq, mtS_str, mtS0_str, opS_some, tyName, dSub, subV, isOw, fMut, fMut0, mutV, fExt, extV, Out.bind_ok, Out.bind_exc, Out.bind_stuck, Out.seq_nx, Out.seq_rt, Out.seq_bk, Out.seq_ct, Out.seq_exc, Out.seq_stuck, Out.back_nx, Out.back_rt, Out.back_exc, Out.turn_nx, Out.turn_rt, Out.turn_ct, Out.turn_bk, List.getElem?_cons_zero, List.getElem?_cons_succ, List.set_cons_zero, List.set_cons_succ, List.cons_append, List.nil_append, List.map_cons, List.map_nil, List.replicate, List.length_cons, List.length_nil, if_true, if_false, Bool.false_eq_true, opLen, opAdd, opSub, opIx, Sw_len, Sw_add, Sw_cut, Sw_cps, Its.grab, Its.free, Nat.zero_add, Nat.sub_zero, Nat.reduceAdd, Nat.reduceSub, call1 (is_count_int (b : Int)), h0]
      · cases hd
theorem paper_pair {u v : List Nat} (h : Ok u v) (a b : Nat) : Gv g_is_overlap_paper [imD u v, .tuple [natD a, natD b]] (.sh (.bool (saysN (txt u v) a b))) := by
  refine gv_rt ?_
  unfold b_is_overlap_paper
  simp only [fVar, fC, fFn, fBin, fIx, fSl, rdSl, opSl, fPart, partV, fNo, fNil, fCons, dArg, argv_sh, argv_fr, argv_bo, argv_sc, argv_fn, fNilD, fConsD, frz_sh, frz_fr, rd_sh, rd_fr, rdS_sh, rdS_fr, rdS_sc, rdS_bo, rdSs_nil', rdSs_sh, rdSs_sc, Option.map_some, rd2_sh, rdI_sh, fLst, fTup, lstV, tupV, fCB, rdC, fIsi, isiV, fCall, dIf, fSeq, fRet, fRetN, fNx, fCt, fBk, leave, fTru, tru, fBool, boolV, tAnd', tOr', tNot', opMul_l, opMul_r, opFdiv_p, opMod_p, Int.reduceLT, Int.reduceNeg, Int.reduceAdd, Int.reduceSub, Int.reduceMul, vAnd_eq, vOr_eq, andV_bool, orV_bool, bind_ite, seq_ite, turn_ite, rtOf_ite, rtOf_rt, rtOf_nx, opEq_int, opNe_int, opEq_str, opNe_str, opLt_int, opGt_int, opLe_int, opGe_int, isi_int_none, isi_int_bool, isi_int_int, isi_int_str, isi_int_list, isi_int_tuple, isi_bool_none, isi_bool_bool, isi_bool_int, isi_bool_str, isi_bool_list, isi_bool_tuple, isi_str_none, isi_str_bool, isi_str_int, isi_str_str, isi_str_list, isi_str_tuple, isi_list_none, isi_list_bool, isi_list_int, isi_list_str, isi_list_list, isi_list_tuple, isi_tuple_none, isi_tuple_bool, isi_tuple_int, isi_tuple_str, isi_tuple_list, isi_tuple_tuple, vNot, vIf, fIsN, isNV, isN, fChain_eq, truD, decide_true, decide_false, Bool.not_true, Bool.not_false, decide_eq_true_eq, Int.cast_ofNat_Int, Int.reduceLE, Int.reduceEq, Int.reduceToNat, not_true_eq_false, not_false_eq_true, Bool.true_eq_false, dSet, dSto, stS, dSetM, dMv, dAsg, gN, gT, gCons, gNil, gSubL, dPar, stosP, stoP, fConsP, dExpr, fYes, fIr, dFor, dIt, fItems, itemsOf, fApp, appV, fMt_eq, fMt0_eq, mtS_str, mtS0_str, opS_some, tyName, dSub, subV, isOw, fMut, fMut0, mutV, fExt, extV, Out.bind_ok, Out.bind_exc, Out.bind_stuck, Out.seq_nx, Out.seq_rt, Out.seq_bk, Out.seq_ct, Out.seq_exc, Out.seq_stuck, Out.back_nx, Out.back_rt, Out.back_exc, Out.turn_nx, Out.turn_rt, Out.turn_ct, Out.turn_bk, List.getElem?_cons_zero, List.getElem?_cons_succ, List.set_cons_zero, List.set_cons_succ, List.cons_append, List.nil_append, List.map_cons, List.map_nil, List.replicate, List.length_cons, List.length_nil, if_true, if_false, Bool.false_eq_true, opLen, opAdd, opSub, opIx, Sw_len, Sw_add, Sw_cut, Sw_cps, Its.grab, Its.free, Nat.zero_add, Nat.sub_zero, Nat.reduceAdd, Nat.reduceSub, call1 (check_two_ok h)]
  rw [fLc_map (ds := [natD a, natD b]) (fun d => .bool true) ?_ ?_ ?_ ?_]
  · simp only [fVar, fC, fFn, fBin, fIx, fSl, rdSl, opSl, fPart, partV, fNo, fNil, fCons, dArg, argv_sh, argv_fr, argv_bo, argv_sc, argv_fn, fNilD, fConsD, frz_sh, frz_fr, rd_sh, rd_fr, rdS_sh, rdS_fr, rdS_sc, rdS_bo, rdSs_nil', rdSs_sh, rdSs_sc, Option.map_some, rd2_sh, rdI_sh, fLst, fTup, lstV, tupV, fCB, rdC, fIsi, isiV, fCall, dIf, fSeq, fRet, fRetN, fNx, fCt, fBk, leave, fTru, tru, fBool, boolV, tAnd', tOr', tNot', opMul_l, opMul_r, opFdiv_p, opMod_p, Int.reduceLT, Int.reduceNeg, Int.reduceAdd, Int.reduceSub, Int.reduceMul, vAnd_eq, vOr_eq, andV_bool, orV_bool, bind_ite, seq_ite, turn_ite, rtOf_ite, rtOf_rt, rtOf_nx, opEq_int, opNe_int, opEq_str, opNe_str, opLt_int, opGt_int, opLe_int, opGe_int, isi_int_none, isi_int_bool, isi_int_int, isi_int_str, isi_int_list, isi_int_tuple, isi_bool_none, isi_bool_bool, isi_bool_int, isi_bool_str, isi_bool_list, isi_bool_tuple, isi_str_none, isi_str_bool, isi_str_int, isi_str_str, isi_str_list, isi_str_tuple, isi_list_none, isi_list_bool, isi_list_int, isi_list_str, isi_list_list, isi_list_tuple, isi_tuple_none, isi_tuple_bool, isi_tuple_int, isi_tuple_str, isi_tuple_list, isi_tuple_tuple, vNot, vIf, fIsN, isNV, isN, fChain_eq, truD, decide_true, decide_false, Bool.not_true, Bool.not_false, decide_eq_true_eq, Int.cast_ofNat_Int, Int.reduceLE, Int.reduceEq, Int.reduceToNat, not_true_eq_false, not_false_eq_true, Bool.true_eq_false, dSet, dSto, stS, dSetM, dMv, dAsg, gN, gT, gCons, gNil, gSubL, dPar, stosP, stoP, fConsP, dExpr, fYes, fIr, dFor, dIt, fItems, itemsOf, fApp, appV, fMt_eq, fMt0_eq, mtS_str, mtS0_str, opS_some, tyName, dSub, subV, isOw, fMut, fMut0, mutV, fExt, extV, Out.bind_ok, Out.bind_exc, Out.bind_stuck, Out.seq_nx, Out.seq_rt, Out.seq_bk, Out.seq_ct, Out.seq_exc, Out.seq_stuck, Out.back_nx, Out.back_rt, Out.back_exc, Out.turn_nx, Out.turn_rt, Out.turn_ct, Out.turn_bk, List.getElem?_cons_zero, List.getElem?_cons_succ, List.set_cons_zero, List.set_cons_succ, List.cons_append, List.nil_append, List.map_cons, List.map_nil, List.replicate, List.length_cons, List.length_nil, if_true, if_false, Bool.false_eq_true, opLen, opAdd, opSub, opIx, Sw_len, Sw_add, Sw_cut, Sw_cps, Its.grab, Its.free, Nat.zero_add, Nat.sub_zero, Nat.reduceAdd, Nat.reduceSub, opAll, boolsOf]
    unfold natD
    simp only [fVar, fC, fFn, fBin, fIx, fSl, rdSl, opSl, fPart, partV, fNo, fNil, fCons, dArg, argv_sh, argv_fr, argv_bo, argv_sc, argv_fn, fNilD, fConsD, frz_sh, frz_fr, rd_sh, rd_fr, rdS_sh, rdS_fr, rdS_sc, rdS_bo, rdSs_nil', rdSs_sh, rdSs_sc, Option.map_some, rd2_sh, rdI_sh, fLst, fTup, lstV, tupV, fCB, rdC, fIsi, isiV, fCall, dIf, fSeq, fRet, fRetN, fNx, fCt, fBk, leave, fTru, tru, fBool, boolV, tAnd', tOr', tNot', opMul_l, opMul_r, opFdiv_p, opMod_p, Int.reduceLT, Int.reduceNeg, Int.reduceAdd, Int.reduceSub, Int.reduceMul, vAnd_eq, vOr_eq, andV_bool, orV_bool, bind_ite, seq_ite, turn_ite, rtOf_ite, rtOf_rt, rtOf_nx, opEq_int, opNe_int, opEq_str, opNe_str, opLt_int, opGt_int, opLe_int, opGe_int, isi_int_none, isi_int_bool, isi_int_int, isi_int_str, isi_int_list, isi_int_tuple, isi_bool_none, isi_bool_bool, isi_bool_int, isi_bool_str, isi_bool_list, isi_bool_tuple, isi_str_none, isi_str_bool, isi_str_int, isi_str_str, isi_str_list, isi_str_tuple, isi_list_none, isi_list_bool, isi_list_int, isi_list_str, isi_list_list, isi_list_tuple, isi_tuple_none, isi_tuple_bool, isi_tuple_int, isi_tuple_str, isi_tuple_list, isi_tuple_tuple, vNot, vIf, fIsN, isNV, isN, fChain_eq, truD, decide_true, decide_false, Bool.not_true, Bool.not_false, decide_eq_true_eq, Int.cast_ofNat_Int, Int.reduceLE, Int.reduceEq, Int.reduceToNat, not_true_eq_false, not_false_eq_true, Bool.true_eq_false, dSet, dSto, stS, dSetM, dMv, dAsg, gN, gT, gCons, gNil, gSubL, dPar, stosP, stoP, fConsP, dExpr, fYes, fIr, dFor, dIt, fItems, itemsOf, fApp, appV, fMt_eq, fMt0_eq, mtS_str, mtS0_str, opS_some, tyName, dSub, subV, isOw, fMut, fMut0, mutV, fExt, extV, Out.bind_ok, Out.bind_exc, Out.bind_stuck, Out.seq_nx, Out.seq_rt, Out.seq_bk, Out.seq_ct, Out.seq_exc, Out.seq_stuck, Out.back_nx, Out.back_rt, Out.back_exc, Out.turn_nx, Out.turn_rt, Out.turn_ct, Out.turn_bk, List.getElem?_cons_zero, List.getElem?_cons_succ, List.set_cons_zero, List.set_cons_succ, List.cons_append, List.nil_append, List.map_cons, List.map_nil, List.replicate, List.length_cons, List.length_nil, if_true, if_false, Bool.false_eq_true, opLen, opAdd, opSub, opIx, Sw_len, Sw_add, Sw_cut, Sw_cps, Its.grab, Its.free, Nat.zero_add, Nat.sub_zero, Nat.reduceAdd, Nat.reduceSub, atI_one, atI_zero, lit_test, call2 (image_txt h), call3 (is_overlap_at_eq (txt u v) a b), List.all]
    unfold saysN
    by_cases h1 : 0 < b
    · have h1' : ¬ (b : Int) < 1 := by omega
      by_cases h2 : a + 2 * b < (txt u v).length
      · have h2' : a + 2 * b + 1 ≤ (txt u v).length := by omega
        simp only [h1, h1', h2, h2', id, Bool.not_true, Bool.false_eq_true, if_false, decide_true, Bool.true_and]
      · have h2' : ¬ a + 2 * b + 1 ≤ (txt u v).length := by omega
        simp only [h1, h1', h2, h2', id, Bool.not_true, Bool.false_eq_true, if_false, decide_true, decide_false, Bool.true_and, Bool.false_and]
    · have h1' : (b : Int) < 1 := by omega
      simp only [h1, h1', id, Bool.not_true, Bool.false_eq_true, if_false, if_true, decide_false, Bool.true_and, Bool.false_and]
  · rfl
  · rfl
  · have := sizeL; simp; omega
  · intro d hd
    have key : ∀ c : Nat, d = natD c → ∃ ρa, gN 2 d (wipeE [some (.sh (imD u v)), some (.sh (.tuple [natD a, natD b])), none] [2]) = some ρa ∧ wipeE ρa [2] = wipeE [some (.sh (imD u v)), some (.sh (.tuple [natD a, natD b])), none] [2] ∧ (fCall 1 g_is_count (fCons (fVar 2) fNil) ρa).bind frz = .ok (.bool true) ρa := by
      rintro c rfl
      refine ⟨[some (.sh (imD u v)), some (.sh (.tuple [natD a, natD b])), some (.sh (natD c))], rfl, rfl, ?_⟩
      have h0 : (0 : Int) ≤ c := by omega
      unfold natD
      simp only [fVar, fC, fFn, fBin, fIx, fSl, rdSl, opSl, fPart, partV, fNo, fNil, fCons, dArg, argv_sh, argv_fr, argv_bo, argv_sc, argv_fn, fNilD, fConsD, frz_sh, frz_fr, rd_sh, rd_fr, rdS_sh, rdS_fr, rdS_sc, rdS_bo, rdSs_nil', rdSs_sh, rdSs_sc, Option.map_some, rd2_sh, rdI_sh, fLst, fTup, lstV, tupV, fCB, rdC, fIsi, isiV, fCall, dIf, fSeq, fRet, fRetN, fNx, fCt, fBk, leave, fTru, tru, fBool, boolV, tAnd', tOr', tNot', opMul_l, opMul_r, opFdiv_p, opMod_p, Int.reduceLT, Int.reduceNeg, Int.reduceAdd, Int.reduceSub, Int.reduceMul, vAnd_eq, vOr_eq, andV_bool, orV_bool, bind_ite, seq_ite, turn_ite, rtOf_ite, rtOf_rt, rtOf_nx, opEq_int, opNe_int, opEq_str, opNe_str, opLt_int, opGt_int, opLe_int, opGe_int, isi_int_none, isi_int_bool, isi_int_int, isi_int_str, isi_int_list, isi_int_tuple, isi_bool_none, isi_bool_bool, isi_bool_int, isi_bool_str, isi_bool_list, isi_bool_tuple, isi_str_none, isi_str_bool, isi_str_int, isi_str_str, isi_str_list, isi_str_tuple, isi_list_none, isi_list_bool, isi_list_int, isi_list_str, isi_list_list, isi_list_tuple, isi_tuple_none, isi_tuple_bool, isi_tuple_int, isi_tuple_str, isi_tuple_list, isi_tuple_tuple, vNot, vIf, fIsN, isNV, isN, fChain_eq, truD, decide_true, decide_false, Bool.not_true, Bool.not_false, decide_eq_true_eq, Int.cast_ofNat_Int, Int.reduceLE, Int.reduceEq, Int.reduceToNat, not_true_eq_false, not_false_eq_true, Bool.true_eq_false, dSet, dSto, stS, dSetM, dMv, dAsg, gN, gT, gCons, gNil, gSubL, dPar, stosP, stoP, fConsP, dExpr, fYes, fIr, dFor, dIt, fItems, itemsOf, fApp, appV, fMt_eq, fMt0_eq, mtS_str, mtS0_str, opS_some, tyName, dSub, subV, isOw, fMut, fMut0, mutV, fExt, extV, Out.bind_ok, Out.bind_exc, Out.bind_stuck, Out.seq_nx, Out.seq_rt, Out.seq_bk, Out.seq_ct, Out.seq_exc, Out.seq_stuck, Out.back_nx, Out.back_rt, Out.back_exc, Out.turn_nx, Out.turn_rt, Out.turn_ct, Out.turn_bk, List.getElem?_cons_zero, List.getElem?_cons_succ, List.set_cons_zero, List.set_cons_succ, List.cons_append, List.nil_append, List.map_cons, List.map_nil, List.replicate, List.length_cons, List.length_nil, if_true, if_false, Bool.false_eq_true, opLen, opAdd, opSub, opIx, Sw_len, Sw_add, Sw_cut, Sw_cps, Its.grab, Its.free, Nat.zero_add, Nat.sub_zero, Nat.reduceAdd, Nat.reduceSub, call1 (is_count_int (c : Int)), h0]
    rcases List.mem_cons.mp hd with rfl | hd
    · exact key a rfl
    · rcases List.mem_cons.mp hd with rfl | hd
      · exact key b rfl
      · cases hd
end K87
namespace K87
open PySem DL
/-! ### stretches of one period -/
def lsStep (w : List Nat) (p : Nat) (s : List (Nat × Nat) × Nat) (t : Nat) : List (Nat × Nat) × Nat :=
  if t + p = w.length ∨ w[t]? ≠ w[t + p]? then (if s.2 + p ≤ t then s.1 ++ [(s.2, t + p)] else s.1, t + 1) else s
def stretches (w : List Nat) (p : Nat) : List (Nat × Nat) := ((List.range' 0 (w.length - p + 1)).foldl (lsStep w p) ([], 0)).1
def twoD (r : Nat × Nat) : D := .tuple [natD r.1, natD r.2]
theorem lsStep_len (w : List Nat) (p : Nat) : ∀ (ts : List Nat) (s : List (Nat × Nat) × Nat), (ts.foldl (lsStep w p) s).1.length ≤ s.1.length + ts.length
  | [], s => by simp
  | t :: ts, s => by
    have h := lsStep_len w p ts (lsStep w p s t)
    have h2 : (lsStep w p s t).1.length ≤ s.1.length + 1 := by
      unfold lsStep
      split
      · dsimp only
        split <;> simp
      · omega
    simp only [List.foldl_cons, List.length_cons]
    omega
theorem stretches_len (w : List Nat) (p : Nat) : (stretches w p).length ≤ w.length - p + 1 := by
  have := lsStep_len w p (List.range' 0 (w.length - p + 1)) ([], 0)
  simp only [List.length_range', List.length_nil] at this
  unfold stretches
  omega
theorem long_stretches_eq {w : List Nat} {p : Nat} (hl : w.length ≤ 1000) (hp : p ≤ w.length) : Gv g_long_stretches [dw w, natD p] (.fr ((stretches w p).map twoD)) := by
  refine gv_rt ?_
  unfold b_long_stretches
  let R : List (Nat × Nat) × Nat → DL.Env → Prop := fun s ρ => ∃ m : Option D, ρ = [some (.sh (dw w)), some (.sh (natD p)), some (.ow false (s.1.map twoD)), some (.sh (natD s.2)), m.map .sh]
  have e0 : (dPar [2, 3] (fConsP (fLst (fNilD)) (fConsP (fC (.int 0)) (fNil)))) [some (SV.sh (dw w)), some (.sh (natD p)), none, none, none] = .ok .nx [some (.sh (dw w)), some (.sh (natD p)), some (.ow false []), some (.sh (natD 0)), none] := rfl
  refine (congrArg (fun o => rtOf (Out.seq o _)) e0).trans ?_
  rw [Out.seq_nx]
  refine seq_foldP (fun o => rtOf o = _) (List.range' 0 (w.length - p + 1)) natD R (lsStep w p) ([], 0) (ρ1 := [some (.sh (dw w)), some (.sh (natD p)), some (.ow false []), some (.sh (natD 0)), none]) ?hi ⟨none, rfl⟩ ?hs ?hm
  case hi =>
    simp only [fVar, fC, fFn, fBin, fIx, fSl, rdSl, opSl, fPart, partV, fNo, fNil, fCons, dArg, argv_sh, argv_fr, argv_bo, argv_sc, argv_fn, fNilD, fConsD, frz_sh, frz_fr, rd_sh, rd_fr, rdS_sh, rdS_fr, rdS_sc, rdS_bo, rdSs_nil', rdSs_sh, rdSs_sc, Option.map_some, rd2_sh, rdI_sh, fLst, fTup, lstV, tupV, fCB, rdC, fIsi, isiV, fCall, dIf, fSeq, fRet, fRetN, fNx, fCt, fBk, leave, fTru, tru, fBool, boolV, tAnd', tOr', tNot', opMul_l, opMul_r, opFdiv_p, opMod_p, Int.reduceLT, Int.reduceNeg, Int.reduceAdd, Int.reduceSub, Int.reduceMul, vAnd_eq, vOr_eq, andV_bool, orV_bool, bind_ite, seq_ite, turn_ite, rtOf_ite, rtOf_rt, rtOf_nx, opEq_int, opNe_int, opEq_str, opNe_str, opLt_int, opGt_int, opLe_int, opGe_int, isi_int_none, isi_int_bool, isi_int_int, isi_int_str, isi_int_list, isi_int_tuple, isi_bool_none, isi_bool_bool, isi_bool_int, isi_bool_str, isi_bool_list, isi_bool_tuple, isi_str_none, isi_str_bool, isi_str_int, isi_str_str, isi_str_list, isi_str_tuple, isi_list_none, isi_list_bool, isi_list_int, isi_list_str, isi_list_list, isi_list_tuple, isi_tuple_none, isi_tuple_bool, isi_tuple_int, isi_tuple_str, isi_tuple_list, isi_tuple_tuple, vNot, vIf, fIsN, isNV, isN, fChain_eq, truD, decide_true, decide_false, Bool.not_true, Bool.not_false, decide_eq_true_eq, Int.cast_ofNat_Int, Int.reduceLE, Int.reduceEq, Int.reduceToNat, not_true_eq_false, not_false_eq_true, Bool.true_eq_false, dSet, dSto, stS, dSetM, dMv, dAsg, gN, gT, gCons, gNil, gSubL, dPar, stosP, stoP, fConsP, dExpr, fYes, fIr, dFor, dIt, fItems, itemsOf, fApp, appV, fMt_eq, fMt0_eq, mtS_str, mtS0_str, opS_some, tyName, dSub, subV, isOw, fMut, fMut0, mutV, fExt, extV, Out.bind_ok, Out.bind_exc, Out.bind_stuck, Out.seq_nx, Out.seq_rt, Out.seq_bk, Out.seq_ct, Out.seq_exc, Out.seq_stuck, Out.back_nx, Out.back_rt, Out.back_exc, Out.turn_nx, Out.turn_rt, Out.turn_ct, Out.turn_bk, List.getElem?_cons_zero, List.getElem?_cons_succ, List.set_cons_zero, List.set_cons_succ, List.cons_append, List.nil_append, List.map_cons, List.map_nil, List.replicate, List.length_cons, List.length_nil, if_true, if_false, Bool.false_eq_true, opLen, opAdd, opSub, opIx, Sw_len, Sw_add, Sw_cut, Sw_cps, Its.grab, Its.free, Nat.zero_add, Nat.sub_zero, Nat.reduceAdd, Nat.reduceSub, natD]
    have e : (w.length : Int) - p + 1 = ((w.length - p + 1 : Nat) : Int) := by omega
    rw [e, fRng1_nat (by omega), show rng 0 (w.length - p + 1) = rng ((0 : Nat) : Int) (w.length - p + 1) from rfl, rng_nat]
    rfl
  case hm =>
    rintro ρ2 ⟨m, rfl⟩
    simp only [fVar, fC, fFn, fBin, fIx, fSl, rdSl, opSl, fPart, partV, fNo, fNil, fCons, dArg, argv_sh, argv_fr, argv_bo, argv_sc, argv_fn, fNilD, fConsD, frz_sh, frz_fr, rd_sh, rd_fr, rdS_sh, rdS_fr, rdS_sc, rdS_bo, rdSs_nil', rdSs_sh, rdSs_sc, Option.map_some, rd2_sh, rdI_sh, fLst, fTup, lstV, tupV, fCB, rdC, fIsi, isiV, fCall, dIf, fSeq, fRet, fRetN, fNx, fCt, fBk, leave, fTru, tru, fBool, boolV, tAnd', tOr', tNot', opMul_l, opMul_r, opFdiv_p, opMod_p, Int.reduceLT, Int.reduceNeg, Int.reduceAdd, Int.reduceSub, Int.reduceMul, vAnd_eq, vOr_eq, andV_bool, orV_bool, bind_ite, seq_ite, turn_ite, rtOf_ite, rtOf_rt, rtOf_nx, opEq_int, opNe_int, opEq_str, opNe_str, opLt_int, opGt_int, opLe_int, opGe_int, isi_int_none, isi_int_bool, isi_int_int, isi_int_str, isi_int_list, isi_int_tuple, isi_bool_none, isi_bool_bool, isi_bool_int, isi_bool_str, isi_bool_list, isi_bool_tuple, isi_str_none, isi_str_bool, isi_str_int, isi_str_str, isi_str_list, isi_str_tuple, isi_list_none, isi_list_bool, isi_list_int, isi_list_str, isi_list_list, isi_list_tuple, isi_tuple_none, isi_tuple_bool, isi_tuple_int, isi_tuple_str, isi_tuple_list, isi_tuple_tuple, vNot, vIf, fIsN, isNV, isN, fChain_eq, truD, decide_true, decide_false, Bool.not_true, Bool.not_false, decide_eq_true_eq, Int.cast_ofNat_Int, Int.reduceLE, Int.reduceEq, Int.reduceToNat, not_true_eq_false, not_false_eq_true, Bool.true_eq_false, dSet, dSto, stS, dSetM, dMv, dAsg, gN, gT, gCons, gNil, gSubL, dPar, stosP, stoP, fConsP, dExpr, fYes, fIr, dFor, dIt, fItems, itemsOf, fApp, appV, fMt_eq, fMt0_eq, mtS_str, mtS0_str, opS_some, tyName, dSub, subV, isOw, fMut, fMut0, mutV, fExt, extV, Out.bind_ok, Out.bind_exc, Out.bind_stuck, Out.seq_nx, Out.seq_rt, Out.seq_bk, Out.seq_ct, Out.seq_exc, Out.seq_stuck, Out.back_nx, Out.back_rt, Out.back_exc, Out.turn_nx, Out.turn_rt, Out.turn_ct, Out.turn_bk, List.getElem?_cons_zero, List.getElem?_cons_succ, List.set_cons_zero, List.set_cons_succ, List.cons_append, List.nil_append, List.map_cons, List.map_nil, List.replicate, List.length_cons, List.length_nil, if_true, if_false, Bool.false_eq_true, opLen, opAdd, opSub, opIx, Sw_len, Sw_add, Sw_cut, Sw_cps, Its.grab, Its.free, Nat.zero_add, Nat.sub_zero, Nat.reduceAdd, Nat.reduceSub]
    rfl
  case hs =>
    rintro pre t post hx ρ ⟨m, rfl⟩
    have ht : t + p ≤ w.length ∧ pre.length ≤ 1001 := by
      have h1 : t ∈ List.range' 0 (w.length - p + 1) := by rw [hx]; simp
      rw [List.mem_range'] at h1
      obtain ⟨i, hi, rfl⟩ := h1
      have h2 := congrArg List.length hx
      simp only [List.length_range', List.length_append, List.length_cons] at h2
      omega
    have hfl := lsStep_len w p pre ([], 0)
    generalize pre.foldl (lsStep w p) ([], 0) = s at hfl ⊢
    obtain ⟨found, b⟩ := s
    simp only [List.length_nil, Nat.zero_add] at hfl
    refine ⟨[some (.sh (dw w)), some (.sh (natD p)), some (.ow false (found.map twoD)), some (.sh (natD b)), some (.sh (natD t))], by cases m <;> rfl, ?_⟩
    have hsz : (found.map twoD).length < sizeLine := by have := sizeL; rw [List.length_map]; omega
    refine ⟨[some (.sh (dw w)), some (.sh (natD p)), some (.ow false ((lsStep w p (found, b) t).1.map twoD)), some (.sh (natD (lsStep w p (found, b) t).2)), some (.sh (natD t))], ⟨some (natD t), rfl⟩, ?_⟩
    have hz : 2 ≤ sizeLine := by have := sizeL; omega
    have fin : ∀ e : Int, e = ((t + p : Nat) : Int) → (t + p = w.length ∨ w[t]? ≠ w[t + p]?) →
        (if (p : Int) ≤ (t : Int) - b then
      if 2 ≤ sizeLine then
        Out.ok Fl.nx
          [some (SV.sh (dw w)), some (SV.sh (PyData.int p)),
            some (SV.ow false (List.map twoD found ++ [PyData.tuple [PyData.int b, PyData.int e]])),
            some (SV.sh (PyData.int ((t : Int) + 1))), some (SV.sh (PyData.int t))]
      else Out.stuck
    else
      Out.ok Fl.nx
        [some (SV.sh (dw w)), some (SV.sh (PyData.int p)), some (SV.ow false (List.map twoD found)),
          some (SV.sh (PyData.int ((t : Int) + 1))), some (SV.sh (PyData.int t))]) =
      Out.ok Fl.nx [some (.sh (dw w)), some (.sh (.int p)), some (.ow false ((lsStep w p (found, b) t).1.map twoD)), some (.sh (.int ((lsStep w p (found, b) t).2 : Nat))), some (.sh (.int t))] := by
      intro e he hc
      subst he
      unfold lsStep
      rw [if_pos hc, if_pos hz]
      by_cases h : b + p ≤ t
      · have h' : (p : Int) ≤ (t : Int) - b := by omega
        simp only [h, h', if_true, List.map_append, List.map_cons, List.map_nil]
        rfl
      · have h' : ¬ (p : Int) ≤ (t : Int) - b := by omega
        simp only [h, h', if_false]
        rfl
    by_cases h1 : t + p = w.length
    · have h1' : (t : Int) + p = w.length := by omega
      have fin := fin (w.length : Int) (by omega) (.inl h1)
      simp only [fVar, fC, fFn, fBin, fIx, fSl, rdSl, opSl, fPart, partV, fNo, fNil, fCons, dArg, argv_sh, argv_fr, argv_bo, argv_sc, argv_fn, fNilD, fConsD, frz_sh, frz_fr, rd_sh, rd_fr, rdS_sh, rdS_fr, rdS_sc, rdS_bo, rdSs_nil', rdSs_sh, rdSs_sc, Option.map_some, rd2_sh, rdI_sh, fLst, fTup, lstV, tupV, fCB, rdC, fIsi, isiV, fCall, dIf, fSeq, fRet, fRetN, fNx, fCt, fBk, leave, fTru, tru, fBool, boolV, tAnd', tOr', tNot', opMul_l, opMul_r, opFdiv_p, opMod_p, Int.reduceLT, Int.reduceNeg, Int.reduceAdd, Int.reduceSub, Int.reduceMul, vAnd_eq, vOr_eq, andV_bool, orV_bool, bind_ite, seq_ite, turn_ite, rtOf_ite, rtOf_rt, rtOf_nx, opEq_int, opNe_int, opEq_str, opNe_str, opLt_int, opGt_int, opLe_int, opGe_int, isi_int_none, isi_int_bool, isi_int_int, isi_int_str, isi_int_list, isi_int_tuple, isi_bool_none, isi_bool_bool, isi_bool_int, isi_bool_str, isi_bool_list, isi_bool_tuple, isi_str_none, isi_str_bool, isi_str_int, isi_str_str, isi_str_list, isi_str_tuple, isi_list_none, isi_list_bool, isi_list_int, isi_list_str, isi_list_list, isi_list_tuple, isi_tuple_none, isi_tuple_bool, isi_tuple_int, isi_tuple_str, isi_tuple_list, isi_tuple_tuple, vNot, vIf, fIsN, isNV, isN, fChain_eq, truD, decide_true, decide_false, Bool.not_true, Bool.not_false, decide_eq_true_eq, Int.cast_ofNat_Int, Int.reduceLE, Int.reduceEq, Int.reduceToNat, not_true_eq_false, not_false_eq_true, Bool.true_eq_false, dSet, dSto, stS, dSetM, dMv, dAsg, gN, gT, gCons, gNil, gSubL, dPar, stosP, stoP, fConsP, dExpr, fYes, fIr, dFor, dIt, fItems, itemsOf, fApp, appV, fMt_eq, fMt0_eq, mtS_str, mtS0_str, opS_some, tyName, dSub, subV, isOw, fMut, fMut0, mutV, fExt, extV, Out.bind_ok, Out.bind_exc, Out.bind_stuck, Out.seq_nx, Out.seq_rt, Out.seq_bk, Out.seq_ct, Out.seq_exc, Out.seq_stuck, Out.back_nx, Out.back_rt, Out.back_exc, Out.turn_nx, Out.turn_rt, Out.turn_ct, Out.turn_bk, List.getElem?_cons_zero, List.getElem?_cons_succ, List.set_cons_zero, List.set_cons_succ, List.cons_append, List.nil_append, List.map_cons, List.map_nil, List.replicate, List.length_cons, List.length_nil, if_true, if_false, Bool.false_eq_true, opLen, opAdd, opSub, opIx, Sw_len, Sw_add, Sw_cut, Sw_cps, Its.grab, Its.free, Nat.zero_add, Nat.sub_zero, Nat.reduceAdd, Nat.reduceSub, natD, h1', hsz]
      exact fin
    · have h1' : ¬ (t : Int) + p = w.length := by omega
      have h2 : t + p < w.length := by omega
      have h3 : t < w.length := by omega
      have h4 : ((t : Int) + p) = ((t + p : Nat) : Int) := by omega
      have h5 : L2.atI w ((t : Int) + p) = some w[t + p] := by rw [h4]; exact atI_n h2
      have g1 : w[t]? = some w[t] := List.getElem?_eq_getElem h3
      have g2 : w[t + p]? = some w[t + p] := List.getElem?_eq_getElem h2
      by_cases h6 : w[t] = w[t + p]
      · have hst : lsStep w p (found, b) t = (found, b) := by
          unfold lsStep
          rw [if_neg]
          rw [g1, g2, h6]
          intro z
          rcases z with z | z
          · exact h1 z
          · exact z rfl
        rw [hst]
        simp only [fVar, fC, fFn, fBin, fIx, fSl, rdSl, opSl, fPart, partV, fNo, fNil, fCons, dArg, argv_sh, argv_fr, argv_bo, argv_sc, argv_fn, fNilD, fConsD, frz_sh, frz_fr, rd_sh, rd_fr, rdS_sh, rdS_fr, rdS_sc, rdS_bo, rdSs_nil', rdSs_sh, rdSs_sc, Option.map_some, rd2_sh, rdI_sh, fLst, fTup, lstV, tupV, fCB, rdC, fIsi, isiV, fCall, dIf, fSeq, fRet, fRetN, fNx, fCt, fBk, leave, fTru, tru, fBool, boolV, tAnd', tOr', tNot', opMul_l, opMul_r, opFdiv_p, opMod_p, Int.reduceLT, Int.reduceNeg, Int.reduceAdd, Int.reduceSub, Int.reduceMul, vAnd_eq, vOr_eq, andV_bool, orV_bool, bind_ite, seq_ite, turn_ite, rtOf_ite, rtOf_rt, rtOf_nx, opEq_int, opNe_int, opEq_str, opNe_str, opLt_int, opGt_int, opLe_int, opGe_int, isi_int_none, isi_int_bool, isi_int_int, isi_int_str, isi_int_list, isi_int_tuple, isi_bool_none, isi_bool_bool, isi_bool_int, isi_bool_str, isi_bool_list, isi_bool_tuple, isi_str_none, isi_str_bool, isi_str_int, isi_str_str, isi_str_list, isi_str_tuple, isi_list_none, isi_list_bool, isi_list_int, isi_list_str, isi_list_list, isi_list_tuple, isi_tuple_none, isi_tuple_bool, isi_tuple_int, isi_tuple_str, isi_tuple_list, isi_tuple_tuple, vNot, vIf, fIsN, isNV, isN, fChain_eq, truD, decide_true, decide_false, Bool.not_true, Bool.not_false, decide_eq_true_eq, Int.cast_ofNat_Int, Int.reduceLE, Int.reduceEq, Int.reduceToNat, not_true_eq_false, not_false_eq_true, Bool.true_eq_false, dSet, dSto, stS, dSetM, dMv, dAsg, gN, gT, gCons, gNil, gSubL, dPar, stosP, stoP, fConsP, dExpr, fYes, fIr, dFor, dIt, fItems, itemsOf, fApp, appV, fMt_eq, fMt0_eq, mtS_str, mtS0_str, opS_some, tyName, dSub, subV, isOw, fMut, fMut0, mutV, fExt, extV, Out.bind_ok, Out.bind_exc, Out.bind_stuck, Out.seq_nx, Out.seq_rt, Out.seq_bk, Out.seq_ct, Out.seq_exc, Out.seq_stuck, Out.back_nx, Out.back_rt, Out.back_exc, Out.turn_nx, Out.turn_rt, Out.turn_ct, Out.turn_bk, List.getElem?_cons_zero, List.getElem?_cons_succ, List.set_cons_zero, List.set_cons_succ, List.cons_append, List.nil_append, List.map_cons, List.map_nil, List.replicate, List.length_cons, List.length_nil, if_true, if_false, Bool.false_eq_true, opLen, opAdd, opSub, opIx, Sw_len, Sw_add, Sw_cut, Sw_cps, Its.grab, Its.free, Nat.zero_add, Nat.sub_zero, Nat.reduceAdd, Nat.reduceSub, natD, h1', hsz, atI_n h3, h5, h6, sign_dw]
      · have h7 : ¬ [w[t]] = [w[t + p]] := fun z => h6 (List.cons.inj z).1
        have fin := fin ((t : Int) + p) h4 (.inr (by rw [g1, g2]; intro z; exact h6 (Option.some.inj z)))
        simp only [fVar, fC, fFn, fBin, fIx, fSl, rdSl, opSl, fPart, partV, fNo, fNil, fCons, dArg, argv_sh, argv_fr, argv_bo, argv_sc, argv_fn, fNilD, fConsD, frz_sh, frz_fr, rd_sh, rd_fr, rdS_sh, rdS_fr, rdS_sc, rdS_bo, rdSs_nil', rdSs_sh, rdSs_sc, Option.map_some, rd2_sh, rdI_sh, fLst, fTup, lstV, tupV, fCB, rdC, fIsi, isiV, fCall, dIf, fSeq, fRet, fRetN, fNx, fCt, fBk, leave, fTru, tru, fBool, boolV, tAnd', tOr', tNot', opMul_l, opMul_r, opFdiv_p, opMod_p, Int.reduceLT, Int.reduceNeg, Int.reduceAdd, Int.reduceSub, Int.reduceMul, vAnd_eq, vOr_eq, andV_bool, orV_bool, bind_ite, seq_ite, turn_ite, rtOf_ite, rtOf_rt, rtOf_nx, opEq_int, opNe_int, opEq_str, opNe_str, opLt_int, opGt_int, opLe_int, opGe_int, isi_int_none, isi_int_bool, isi_int_int, isi_int_str, isi_int_list, isi_int_tuple, isi_bool_none, isi_bool_bool, isi_bool_int, isi_bool_str, isi_bool_list, isi_bool_tuple, isi_str_none, isi_str_bool, isi_str_int, isi_str_str, isi_str_list, isi_str_tuple, isi_list_none, isi_list_bool, isi_list_int, isi_list_str, isi_list_list, isi_list_tuple, isi_tuple_none, isi_tuple_bool, isi_tuple_int, isi_tuple_str, isi_tuple_list, isi_tuple_tuple, vNot, vIf, fIsN, isNV, isN, fChain_eq, truD, decide_true, decide_false, Bool.not_true, Bool.not_false, decide_eq_true_eq, Int.cast_ofNat_Int, Int.reduceLE, Int.reduceEq, Int.reduceToNat, not_true_eq_false, not_false_eq_true, Bool.true_eq_false, dSet, dSto, stS, dSetM, dMv, dAsg, gN, gT, gCons, gNil, gSubL, dPar, stosP, stoP, fConsP, dExpr, fYes, fIr, dFor, dIt, fItems, itemsOf, fApp, appV, fMt_eq, fMt0_eq, mtS_str, mtS0_str, opS_some, tyName, dSub, subV, isOw, fMut, fMut0, mutV, fExt, extV, Out.bind_ok, Out.bind_exc, Out.bind_stuck, Out.seq_nx, Out.seq_rt, Out.seq_bk, Out.seq_ct, Out.seq_exc, Out.seq_stuck, Out.back_nx, Out.back_rt, Out.back_exc, Out.turn_nx, Out.turn_rt, Out.turn_ct, Out.turn_bk, List.getElem?_cons_zero, List.getElem?_cons_succ, List.set_cons_zero, List.set_cons_succ, List.cons_append, List.nil_append, List.map_cons, List.map_nil, List.replicate, List.length_cons, List.length_nil, if_true, if_false, Bool.false_eq_true, opLen, opAdd, opSub, opIx, Sw_len, Sw_add, Sw_cut, Sw_cps, Its.grab, Its.free, Nat.zero_add, Nat.sub_zero, Nat.reduceAdd, Nat.reduceSub, natD, h1', hsz, atI_n h3, h5, h7, sign_dw]
        exact fin
end K87
namespace K87
open PySem DL
theorem opMul_dw {a : List Nat} {n : Nat} {ρ : DL.Env} (h : a.length * n ≤ 1000000) (hn : n ≤ 1000000) : opMul (dw a) (.int (n : Int)) ρ = .ok (.sh (dw (List.replicate n a).flatten)) ρ := by
  show opMul (.str (Sw a)) (.int (n : Int)) ρ = _
  simp only [opMul]
  rw [if_pos ⟨smI_mk (by omega) (by omega), by have := sizeL; rw [Sw_len]; simp only [Int.toNat_natCast]; omega⟩]
  unfold sRep
  simp [Sw]
/-- the length of the root of a word -/
def rootN (w : List Nat) : List Nat := ((List.range' 1 w.length).findSome? fun m => if w.length % m = 0 ∧ (List.replicate (w.length / m) (w.take m)).flatten = w then some (w.take m) else none).getD w
theorem root_round_eq {w : List Nat} (hl : w.length ≤ 1000) : Gv g_root_round [dw w] (.sh (dw (rootN w))) := by
  refine gv_rt ?_
  unfold b_root_round
  refine seq_look (fun o => rtOf o = _) (List.range' 1 w.length) natD (fun ρ => ∃ m : Option D, ρ = [some (.sh (dw w)), m.map .sh]) (fun m => (if w.length % m = 0 ∧ (List.replicate (w.length / m) (w.take m)).flatten = w then some (w.take m) else none).map fun x => .sh (dw x))
    (ρ1 := [some (SV.sh (dw w)), none]) ?hi ⟨none, rfl⟩ ?hs ?hm
  case hi =>
    simp only [fVar, fC, fFn, fBin, fIx, fSl, rdSl, opSl, fPart, partV, fNo, fNil, fCons, dArg, argv_sh, argv_fr, argv_bo, argv_sc, argv_fn, fNilD, fConsD, frz_sh, frz_fr, rd_sh, rd_fr, rdS_sh, rdS_fr, rdS_sc, rdS_bo, rdSs_nil', rdSs_sh, rdSs_sc, Option.map_some, rd2_sh, rdI_sh, fLst, fTup, lstV, tupV, fCB, rdC, fIsi, isiV, fCall, dIf, fSeq, fRet, fRetN, fNx, fCt, fBk, leave, fTru, tru, fBool, boolV, tAnd', tOr', tNot', opMul_l, opMul_r, opFdiv_p, opMod_p, Int.reduceLT, Int.reduceNeg, Int.reduceAdd, Int.reduceSub, Int.reduceMul, vAnd_eq, vOr_eq, andV_bool, orV_bool, bind_ite, seq_ite, turn_ite, rtOf_ite, rtOf_rt, rtOf_nx, opEq_int, opNe_int, opEq_str, opNe_str, opLt_int, opGt_int, opLe_int, opGe_int, isi_int_none, isi_int_bool, isi_int_int, isi_int_str, isi_int_list, isi_int_tuple, isi_bool_none, isi_bool_bool, isi_bool_int, isi_bool_str, isi_bool_list, isi_bool_tuple, isi_str_none, isi_str_bool, isi_str_int, isi_str_str, isi_str_list, isi_str_tuple, isi_list_none, isi_list_bool, isi_list_int, isi_list_str, isi_list_list, isi_list_tuple, isi_tuple_none, isi_tuple_bool, isi_tuple_int, isi_tuple_str, isi_tuple_list, isi_tuple_tuple, vNot, vIf, fIsN, isNV, isN, fChain_eq, truD, decide_true, decide_false, Bool.not_true, Bool.not_false, decide_eq_true_eq, Int.cast_ofNat_Int, Int.reduceLE, Int.reduceEq, Int.reduceToNat, not_true_eq_false, not_false_eq_true, Bool.true_eq_false, dSet, dSto, stS, dSetM, dMv, dAsg, gN, gT, gCons, gNil, gSubL, dPar, stosP, stoP, fConsP, dExpr, fYes, fIr, dFor, dIt, fItems, itemsOf, fApp, appV, fMt_eq, fMt0_eq, mtS_str, mtS0_str, opS_some, tyName, dSub, subV, isOw, fMut, fMut0, mutV, fExt, extV, Out.bind_ok, Out.bind_exc, Out.bind_stuck, Out.seq_nx, Out.seq_rt, Out.seq_bk, Out.seq_ct, Out.seq_exc, Out.seq_stuck, Out.back_nx, Out.back_rt, Out.back_exc, Out.turn_nx, Out.turn_rt, Out.turn_ct, Out.turn_bk, List.getElem?_cons_zero, List.getElem?_cons_succ, List.set_cons_zero, List.set_cons_succ, List.cons_append, List.nil_append, List.map_cons, List.map_nil, List.replicate, List.length_cons, List.length_nil, if_true, if_false, Bool.false_eq_true, opLen, opAdd, opSub, opIx, Sw_len, Sw_add, Sw_cut, Sw_cps, Its.grab, Its.free, Nat.zero_add, Nat.sub_zero, Nat.reduceAdd, Nat.reduceSub]
    have e : (w.length : Int) + 1 = ((w.length + 1 : Nat) : Int) := by omega
    have e2 : fRng2 [.sh (.int (1 : Int)), .sh (.int ((w.length + 1 : Nat) : Int))] = fRng2 [.sh (.int ((1 : Nat) : Int)), .sh (.int ((w.length + 1 : Nat) : Int))] := rfl
    rw [e, e2, fRng2_nat (by omega) (by omega), rng_nat]
    rfl
  case hm =>
    rintro ρ2 ⟨m, rfl⟩
    rw [find_map]
    unfold rootN
    cases (List.range' 1 w.length).findSome? fun m => if w.length % m = 0 ∧ (List.replicate (w.length / m) (w.take m)).flatten = w then some (w.take m) else none with
    | none => simp only [fVar, fC, fFn, fBin, fIx, fSl, rdSl, opSl, fPart, partV, fNo, fNil, fCons, dArg, argv_sh, argv_fr, argv_bo, argv_sc, argv_fn, fNilD, fConsD, frz_sh, frz_fr, rd_sh, rd_fr, rdS_sh, rdS_fr, rdS_sc, rdS_bo, rdSs_nil', rdSs_sh, rdSs_sc, Option.map_some, rd2_sh, rdI_sh, fLst, fTup, lstV, tupV, fCB, rdC, fIsi, isiV, fCall, dIf, fSeq, fRet, fRetN, fNx, fCt, fBk, leave, fTru, tru, fBool, boolV, tAnd', tOr', tNot', opMul_l, opMul_r, opFdiv_p, opMod_p, Int.reduceLT, Int.reduceNeg, Int.reduceAdd, Int.reduceSub, Int.reduceMul, vAnd_eq, vOr_eq, andV_bool, orV_bool, bind_ite, seq_ite, turn_ite, rtOf_ite, rtOf_rt, rtOf_nx, opEq_int, opNe_int, opEq_str, opNe_str, opLt_int, opGt_int, opLe_int, opGe_int, isi_int_none, isi_int_bool, isi_int_int, isi_int_str, isi_int_list, isi_int_tuple, isi_bool_none, isi_bool_bool, isi_bool_int, isi_bool_str, isi_bool_list, isi_bool_tuple, isi_str_none, isi_str_bool, isi_str_int, isi_str_str, isi_str_list, isi_str_tuple, isi_list_none, isi_list_bool, isi_list_int, isi_list_str, isi_list_list, isi_list_tuple, isi_tuple_none, isi_tuple_bool, isi_tuple_int, isi_tuple_str, isi_tuple_list, isi_tuple_tuple, vNot, vIf, fIsN, isNV, isN, fChain_eq, truD, decide_true, decide_false, Bool.not_true, Bool.not_false, decide_eq_true_eq, Int.cast_ofNat_Int, Int.reduceLE, Int.reduceEq, Int.reduceToNat, not_true_eq_false, not_false_eq_true, Bool.true_eq_false, dSet, dSto, stS, dSetM, dMv, dAsg, gN, gT, gCons, gNil, gSubL, dPar, stosP, stoP, fConsP, dExpr, fYes, fIr, dFor, dIt, fItems, itemsOf, fApp, appV, fMt_eq, fMt0_eq, mtS_str, mtS0_str, opS_some, tyName, dSub, subV, isOw, fMut, fMut0, mutV, fExt, extV, Out.bind_ok, Out.bind_exc, Out.bind_stuck, Out.seq_nx, Out.seq_rt, Out.seq_bk, Out.seq_ct, Out.seq_exc, Out.seq_stuck, Out.back_nx, Out.back_rt, Out.back_exc, Out.turn_nx, Out.turn_rt, Out.turn_ct, Out.turn_bk, List.getElem?_cons_zero, List.getElem?_cons_succ, List.set_cons_zero, List.set_cons_succ, List.cons_append, List.nil_append, List.map_cons, List.map_nil, List.replicate, List.length_cons, List.length_nil, if_true, if_false, Bool.false_eq_true, opLen, opAdd, opSub, opIx, Sw_len, Sw_add, Sw_cut, Sw_cps, Its.grab, Its.free, Nat.zero_add, Nat.sub_zero, Nat.reduceAdd, Nat.reduceSub]; rfl
    | some r => rfl
  case hs =>
    rintro k hk ρ ⟨m, rfl⟩
    rw [List.mem_range'] at hk
    have hk2 : 1 ≤ k ∧ k ≤ w.length := by
      obtain ⟨i, hi, rfl⟩ := hk
      omega
    refine ⟨[some (.sh (dw w)), some (.sh (natD k))], by cases m <;> rfl, [some (.sh (dw w)), some (.sh (natD k))], ⟨some (natD k), rfl⟩, ?_⟩
    have hk3 : (0 : Int) < k := by omega
    have hk4 : (k : Int) < 1073741824 := by omega
    have e1 : (w.length : Int) % k = ((w.length % k : Nat) : Int) := by omega
    have e2 : (w.length : Int) / k = ((w.length / k : Nat) : Int) := by omega
    have hle : w.length / k ≤ w.length := Nat.div_le_self _ _
    have hm : (w.take k).length * (w.length / k) ≤ 1000000 := by
      have h1 : (w.take k).length ≤ 1000 := by rw [List.length_take]; omega
      exact Nat.le_trans (Nat.mul_le_mul h1 (Nat.le_trans hle hl)) (by decide)
    simp only [fVar, fC, fFn, fBin, fIx, fSl, rdSl, opSl, fPart, partV, fNo, fNil, fCons, dArg, argv_sh, argv_fr, argv_bo, argv_sc, argv_fn, fNilD, fConsD, frz_sh, frz_fr, rd_sh, rd_fr, rdS_sh, rdS_fr, rdS_sc, rdS_bo, rdSs_nil', rdSs_sh, rdSs_sc, Option.map_some, rd2_sh, rdI_sh, fLst, fTup, lstV, tupV, fCB, rdC, fIsi, isiV, fCall, dIf, fSeq, fRet, fRetN, fNx, fCt, fBk, leave, fTru, tru, fBool, boolV, tAnd', tOr', tNot', opMul_l, opMul_r, opFdiv_p, opMod_p, Int.reduceLT, Int.reduceNeg, Int.reduceAdd, Int.reduceSub, Int.reduceMul, vAnd_eq, vOr_eq, andV_bool, orV_bool, bind_ite, seq_ite, turn_ite, rtOf_ite, rtOf_rt, rtOf_nx, opEq_int, opNe_int, opEq_str, opNe_str, opLt_int, opGt_int, opLe_int, opGe_int, isi_int_none, isi_int_bool, isi_int_int, isi_int_str, isi_int_list, isi_int_tuple, isi_bool_none, isi_bool_bool, isi_bool_int, isi_bool_str, isi_bool_list, isi_bool_tuple, isi_str_none, isi_str_bool, isi_str_int, isi_str_str, isi_str_list, isi_str_tuple, isi_list_none, isi_list_bool, isi_list_int, isi_list_str, isi_list_list, isi_list_tuple, isi_tuple_none, isi_tuple_bool, isi_tuple_int, isi_tuple_str, isi_tuple_list, isi_tuple_tuple, vNot, vIf, fIsN, isNV, isN, fChain_eq, truD, decide_true, decide_false, Bool.not_true, Bool.not_false, decide_eq_true_eq, Int.cast_ofNat_Int, Int.reduceLE, Int.reduceEq, Int.reduceToNat, not_true_eq_false, not_false_eq_true, Bool.true_eq_false, dSet, dSto, stS, dSetM, dMv, dAsg, gN, gT, gCons, gNil, gSubL, dPar, stosP, stoP, fConsP, dExpr, fYes, fIr, dFor, dIt, fItems, itemsOf, fApp, appV, fMt_eq, fMt0_eq, mtS_str, mtS0_str, opS_some, tyName, dSub, subV, isOw, fMut, fMut0, mutV, fExt, extV, Out.bind_ok, Out.bind_exc, Out.bind_stuck, Out.seq_nx, Out.seq_rt, Out.seq_bk, Out.seq_ct, Out.seq_exc, Out.seq_stuck, Out.back_nx, Out.back_rt, Out.back_exc, Out.turn_nx, Out.turn_rt, Out.turn_ct, Out.turn_bk, List.getElem?_cons_zero, List.getElem?_cons_succ, List.set_cons_zero, List.set_cons_succ, List.cons_append, List.nil_append, List.map_cons, List.map_nil, List.replicate, List.length_cons, List.length_nil, if_true, if_false, Bool.false_eq_true, opLen, opAdd, opSub, opIx, Sw_len, Sw_add, Sw_cut, Sw_cps, Its.grab, Its.free, Nat.zero_add, Nat.sub_zero, Nat.reduceAdd, Nat.reduceSub, natD, hk3, hk4, e1, e2, cut_to, opMul_dw hm (by omega)]
    by_cases h1 : w.length % k = 0
    · have h1' : ((w.length % k : Nat) : Int) = 0 := by omega
      by_cases h2 : (List.replicate (w.length / k) (w.take k)).flatten = w
      · rw [if_pos h1', if_pos h2, if_pos ⟨h1, h2⟩]; rfl
      · rw [if_pos h1', if_neg h2, if_neg (fun z => h2 z.2)]; rfl
    · have h1' : ¬ ((w.length % k : Nat) : Int) = 0 := by omega
      rw [if_neg h1', if_neg (fun z => h1 z.1)]; rfl
end K87
namespace K87
open PySem DL
/-! ### runs -/
def rStep (w : List Nat) (p : Nat) (s : List (Nat × Nat × Nat)) (r : Nat × Nat) : List (Nat × Nat × Nat) := if (rootN (sub w r.1 (r.1 + p))).length = p then s ++ [(r.1, r.2, p)] else s
def runsIn (w : List Nat) (s : List (Nat × Nat × Nat)) (p : Nat) : List (Nat × Nat × Nat) := (stretches w p).foldl (rStep w p) s
def runsN (w : List Nat) : List (Nat × Nat × Nat) := (List.range' 1 (w.length / 2)).foldl (runsIn w) []
def threeD (r : Nat × Nat × Nat) : D := .tuple [natD r.1, natD r.2.1, natD r.2.2]
theorem rStep_len (w : List Nat) (p : Nat) : ∀ (rs : List (Nat × Nat)) (s : List (Nat × Nat × Nat)), (rs.foldl (rStep w p) s).length ≤ s.length + rs.length
  | [], s => by simp
  | r :: rs, s => by
    have h := rStep_len w p rs (rStep w p s r)
    have h2 : (rStep w p s r).length ≤ s.length + 1 := by
      unfold rStep
      split <;> simp
    simp only [List.foldl_cons, List.length_cons]
    omega
theorem runsIn_len (w : List Nat) : ∀ (ps : List Nat) (s : List (Nat × Nat × Nat)), (ps.foldl (runsIn w) s).length ≤ s.length + ps.length * (w.length + 1)
  | [], s => by simp
  | p :: ps, s => by
    have h := runsIn_len w ps (runsIn w s p)
    have h2 : (runsIn w s p).length ≤ s.length + (w.length + 1) := by
      have h3 := rStep_len w p (stretches w p) s
      have h4 := stretches_len w p
      unfold runsIn
      omega
    simp only [List.foldl_cons, List.length_cons, Nat.add_mul, Nat.one_mul]
    omega
theorem alike_three (a b : Nat × Nat × Nat) : PySem.W.alike (threeD a) (threeD b) = true := by
  simp [threeD, natD, PySem.W.alike, PySem.W.alikeAll]
theorem depth_threes : ∀ rs : List (Nat × Nat × Nat), PyData.depthAll (rs.map threeD) ≤ 60
  | [] => by simp [PyData.depthAll]
  | r :: rs => by
    have := depth_threes rs
    simp only [List.map_cons, PyData.depthAll, threeD, natD, PyData.depth] at *
    omega
theorem sort_threes (rs : List (Nat × Nat × Nat)) : sortB (rs.map threeD) = true := by
  unfold sortB alikeB deepB
  simp only [Bool.and_eq_true, Bool.or_eq_true, decide_eq_true_eq]
  refine ⟨⟨?_, .inl ?_⟩, depth_threes rs⟩
  · rw [List.all_eq_true]
    intro a ha
    rw [List.all_eq_true]
    intro b hb
    obtain ⟨x, _, rfl⟩ := List.mem_map.mp ha
    obtain ⟨y, _, rfl⟩ := List.mem_map.mp hb
    exact alike_three x y
  · rw [List.all_eq_true]
    intro a ha
    obtain ⟨x, _, rfl⟩ := List.mem_map.mp ha
    rfl
theorem srt_threes (rs : List (Nat × Nat × Nat)) : ∃ qs : List (Nat × Nat × Nat), srt (rs.map threeD) = qs.map threeD ∧ qs.length = rs.length ∧ ∀ r, r ∈ qs ↔ r ∈ rs := by
  have hp : (srt (rs.map threeD)).Perm (rs.map threeD) := List.mergeSort_perm _ _
  have key : ∀ ds : List D, (∀ d ∈ ds, ∃ r, d = threeD r) → ∃ qs : List (Nat × Nat × Nat), ds = qs.map threeD := by
    intro ds
    induction ds with
    | nil => intro _; exact ⟨[], rfl⟩
    | cons d ds ih =>
      intro h
      obtain ⟨r, rfl⟩ := h d (by simp)
      obtain ⟨qs, rfl⟩ := ih fun x hx => h x (by simp [hx])
      exact ⟨r :: qs, rfl⟩
  obtain ⟨qs, hq⟩ := key (srt (rs.map threeD)) fun d hd => by
    obtain ⟨r, _, rfl⟩ := List.mem_map.mp (hp.mem_iff.mp hd)
    exact ⟨r, rfl⟩
  have inj : ∀ a b : Nat × Nat × Nat, threeD a = threeD b → a = b := by
    rintro ⟨a1, a2, a3⟩ ⟨b1, b2, b3⟩ h
    simp only [threeD, natD, PyData.tuple.injEq, List.cons.injEq, PyData.int.injEq, Int.natCast_inj, and_true] at h
    simp [h]
  refine ⟨qs, hq, by have := hp.length_eq; rw [hq, List.length_map, List.length_map] at this; exact this, fun r => ⟨fun h => ?_, fun h => ?_⟩⟩
  · have : threeD r ∈ srt (rs.map threeD) := by rw [hq]; exact List.mem_map_of_mem h
    obtain ⟨x, hx, e⟩ := List.mem_map.mp (hp.mem_iff.mp this)
    rw [← inj _ _ e]; exact hx
  · have : threeD r ∈ srt (rs.map threeD) := hp.mem_iff.mpr (List.mem_map_of_mem h)
    rw [hq] at this
    obtain ⟨x, hx, e⟩ := List.mem_map.mp this
    rw [← inj _ _ e]; exact hx
end K87
namespace K87
open PySem DL
theorem runs_of_eq {w : List Nat} (hl : w.length ≤ 100) : ∃ qs : List (Nat × Nat × Nat), (∀ r, r ∈ qs ↔ r ∈ runsN w) ∧ qs.length = (runsN w).length ∧ Gv g_runs_of [dw w] (.fr (qs.map threeD)) := by
  obtain ⟨qs, hq, hlen, hm⟩ := srt_threes (runsN w)
  refine ⟨qs, hm, hlen, ?_⟩
  refine gv_rt ?_
  unfold b_runs_of
  let R : List (Nat × Nat × Nat) → DL.Env → Prop := fun s ρ => ∃ m2 m3 m4 : Option D, ρ = [some (.sh (dw w)), some (.ow false (s.map threeD)), m2.map .sh, m3.map .sh, m4.map .sh]
  have e0 : (dSet 1 (fLst (fNilD))) [some (SV.sh (dw w)), none, none, none, none] = .ok .nx [some (.sh (dw w)), some (.ow false []), none, none, none] := rfl
  refine (congrArg (fun o => rtOf (Out.seq o _)) e0).trans ?_
  rw [Out.seq_nx]
  refine seq_foldP (fun o => rtOf o = _) (List.range' 1 (w.length / 2)) natD R (runsIn w) [] (ρ1 := [some (.sh (dw w)), some (.ow false []), none, none, none]) ?hi ⟨none, none, none, rfl⟩ ?hs ?hm
  case hi =>
    simp only [fVar, fC, fFn, fBin, fIx, fSl, rdSl, opSl, fPart, partV, fNo, fNil, fCons, dArg, argv_sh, argv_fr, argv_bo, argv_sc, argv_fn, fNilD, fConsD, frz_sh, frz_fr, rd_sh, rd_fr, rdS_sh, rdS_fr, rdS_sc, rdS_bo, rdSs_nil', rdSs_sh, rdSs_sc, Option.map_some, rd2_sh, rdI_sh, fLst, fTup, lstV, tupV, fCB, rdC, fIsi, isiV, fCall, dIf, fSeq, fRet, fRetN, fNx, fCt, fBk, leave, fTru, tru, fBool, boolV, tAnd', tOr', tNot', opMul_l, opMul_r, opFdiv_p, opMod_p, Int.reduceLT, Int.reduceNeg, Int.reduceAdd, Int.reduceSub, Int.reduceMul, vAnd_eq, vOr_eq, andV_bool, orV_bool, bind_ite, seq_ite, turn_ite, rtOf_ite, rtOf_rt, rtOf_nx, opEq_int, opNe_int, opEq_str, opNe_str, opLt_int, opGt_int, opLe_int, opGe_int, isi_int_none, isi_int_bool, isi_int_int, isi_int_str, isi_int_list, isi_int_tuple, isi_bool_none, isi_bool_bool, isi_bool_int, isi_bool_str, isi_bool_list, isi_bool_tuple, isi_str_none, isi_str_bool, isi_str_int, isi_str_str, isi_str_list, isi_str_tuple, isi_list_none, isi_list_bool, isi_list_int, isi_list_str, isi_list_list, isi_list_tuple, isi_tuple_none, isi_tuple_bool, isi_tuple_int, isi_tuple_str, isi_tuple_list, isi_tuple_tuple, vNot, vIf, fIsN, isNV, isN, fChain_eq, truD, decide_true, decide_false, Bool.not_true, Bool.not_false, decide_eq_true_eq, Int.cast_ofNat_Int, Int.reduceLE, Int.reduceEq, Int.reduceToNat, not_true_eq_false, not_false_eq_true, Bool.true_eq_false, dSet, dSto, stS, dSetM, dMv, dAsg, gN, gT, gCons, gNil, gSubL, dPar, stosP, stoP, fConsP, dExpr, fYes, fIr, dFor, dIt, fItems, itemsOf, fApp, appV, fMt_eq, fMt0_eq, mtS_str, mtS0_str, opS_some, tyName, dSub, subV, isOw, fMut, fMut0, mutV, fExt, extV, Out.bind_ok, Out.bind_exc, Out.bind_stuck, Out.seq_nx, Out.seq_rt, Out.seq_bk, Out.seq_ct, Out.seq_exc, Out.seq_stuck, Out.back_nx, Out.back_rt, Out.back_exc, Out.turn_nx, Out.turn_rt, Out.turn_ct, Out.turn_bk, List.getElem?_cons_zero, List.getElem?_cons_succ, List.set_cons_zero, List.set_cons_succ, List.cons_append, List.nil_append, List.map_cons, List.map_nil, List.replicate, List.length_cons, List.length_nil, if_true, if_false, Bool.false_eq_true, opLen, opAdd, opSub, opIx, Sw_len, Sw_add, Sw_cut, Sw_cps, Its.grab, Its.free, Nat.zero_add, Nat.sub_zero, Nat.reduceAdd, Nat.reduceSub]
    have e : ((w.length : Int) / 2 + 1) = ((w.length / 2 + 1 : Nat) : Int) := by omega
    have e2 : fRng2 [.sh (.int (1 : Int)), .sh (.int ((w.length / 2 + 1 : Nat) : Int))] = fRng2 [.sh (.int ((1 : Nat) : Int)), .sh (.int ((w.length / 2 + 1 : Nat) : Int))] := rfl
    rw [e, e2, fRng2_nat (by omega) (by omega), rng_nat]
    rfl
  case hm =>
    rintro ρ2 ⟨m2, m3, m4, rfl⟩
    have e3 : rdSs [EV.bo 1] [some (SV.sh (dw w)), some (.ow false ((runsN w).map threeD)), m2.map .sh, m3.map .sh, m4.map .sh] = some [.list ((runsN w).map threeD)] := rfl
    have e4 : (List.range' 1 (w.length / 2)).foldl (runsIn w) [] = runsN w := rfl
    rw [e4]
    simp only [fVar, fC, fFn, fBin, fIx, fSl, rdSl, opSl, fPart, partV, fNo, fNil, fCons, dArg, argv_sh, argv_fr, argv_bo, argv_sc, argv_fn, fNilD, fConsD, frz_sh, frz_fr, rd_sh, rd_fr, rdS_sh, rdS_fr, rdS_sc, rdS_bo, rdSs_nil', rdSs_sh, rdSs_sc, Option.map_some, rd2_sh, rdI_sh, fLst, fTup, lstV, tupV, fCB, rdC, fIsi, isiV, fCall, dIf, fSeq, fRet, fRetN, fNx, fCt, fBk, leave, fTru, tru, fBool, boolV, tAnd', tOr', tNot', opMul_l, opMul_r, opFdiv_p, opMod_p, Int.reduceLT, Int.reduceNeg, Int.reduceAdd, Int.reduceSub, Int.reduceMul, vAnd_eq, vOr_eq, andV_bool, orV_bool, bind_ite, seq_ite, turn_ite, rtOf_ite, rtOf_rt, rtOf_nx, opEq_int, opNe_int, opEq_str, opNe_str, opLt_int, opGt_int, opLe_int, opGe_int, isi_int_none, isi_int_bool, isi_int_int, isi_int_str, isi_int_list, isi_int_tuple, isi_bool_none, isi_bool_bool, isi_bool_int, isi_bool_str, isi_bool_list, isi_bool_tuple, isi_str_none, isi_str_bool, isi_str_int, isi_str_str, isi_str_list, isi_str_tuple, isi_list_none, isi_list_bool, isi_list_int, isi_list_str, isi_list_list, isi_list_tuple, isi_tuple_none, isi_tuple_bool, isi_tuple_int, isi_tuple_str, isi_tuple_list, isi_tuple_tuple, vNot, vIf, fIsN, isNV, isN, fChain_eq, truD, decide_true, decide_false, Bool.not_true, Bool.not_false, decide_eq_true_eq, Int.cast_ofNat_Int, Int.reduceLE, Int.reduceEq, Int.reduceToNat, not_true_eq_false, not_false_eq_true, Bool.true_eq_false, dSet, dSto, stS, dSetM, dMv, dAsg, gN, gT, gCons, gNil, gSubL, dPar, stosP, stoP, fConsP, dExpr, fYes, fIr, dFor, dIt, fItems, itemsOf, fApp, appV, fMt_eq, fMt0_eq, mtS_str, mtS0_str, opS_some, tyName, dSub, subV, isOw, fMut, fMut0, mutV, fExt, extV, Out.bind_ok, Out.bind_exc, Out.bind_stuck, Out.seq_nx, Out.seq_rt, Out.seq_bk, Out.seq_ct, Out.seq_exc, Out.seq_stuck, Out.back_nx, Out.back_rt, Out.back_exc, Out.turn_nx, Out.turn_rt, Out.turn_ct, Out.turn_bk, List.getElem?_cons_zero, List.getElem?_cons_succ, List.set_cons_zero, List.set_cons_succ, List.cons_append, List.nil_append, List.map_cons, List.map_nil, List.replicate, List.length_cons, List.length_nil, if_true, if_false, Bool.false_eq_true, opLen, opAdd, opSub, opIx, Sw_len, Sw_add, Sw_cut, Sw_cps, Its.grab, Its.free, Nat.zero_add, Nat.sub_zero, Nat.reduceAdd, Nat.reduceSub, e3, opSorted, sort_threes, hq]
  case hs =>
    rintro pre p post hx ρ ⟨m2, m3, m4, rfl⟩
    have hp : p ≤ w.length ∧ pre.length ≤ 50 := by
      have h1 : p ∈ List.range' 1 (w.length / 2) := by rw [hx]; simp
      rw [List.mem_range'] at h1
      obtain ⟨i, hi, rfl⟩ := h1
      have h2 := congrArg List.length hx
      simp only [List.length_range', List.length_append, List.length_cons] at h2
      omega
    have hfl := runsIn_len w pre []
    generalize pre.foldl (runsIn w) [] = s at hfl ⊢
    have hs : s.length ≤ 10000 := by
      have : pre.length * (w.length + 1) ≤ 50 * 101 := Nat.mul_le_mul hp.2 (by omega)
      simp only [List.length_nil] at hfl
      omega
    refine ⟨[some (.sh (dw w)), some (.ow false (s.map threeD)), some (.sh (natD p)), m3.map .sh, m4.map .sh], by cases m2 <;> rfl, ?_⟩
    let R2 : List (Nat × Nat × Nat) → DL.Env → Prop := fun s ρ => ∃ m3 m4 : Option D, ρ = [some (.sh (dw w)), some (.ow false (s.map threeD)), some (.sh (natD p)), m3.map .sh, m4.map .sh]
    refine seq_foldPX (stretches w p) twoD R2 (rStep w p) s (ρ1 := [some (.sh (dw w)), some (.ow false (s.map threeD)), some (.sh (natD p)), m3.map .sh, m4.map .sh]) ?hi ⟨m3, m4, rfl⟩ ?hs ?hm
    case hm =>
      rintro ρ3 ⟨m5, m6, rfl⟩
      exact ⟨_, ⟨some (natD p), m5, m6, rfl⟩, rfl⟩
    case hi =>
      simp only [fVar, fC, fFn, fBin, fIx, fSl, rdSl, opSl, fPart, partV, fNo, fNil, fCons, dArg, argv_sh, argv_fr, argv_bo, argv_sc, argv_fn, fNilD, fConsD, frz_sh, frz_fr, rd_sh, rd_fr, rdS_sh, rdS_fr, rdS_sc, rdS_bo, rdSs_nil', rdSs_sh, rdSs_sc, Option.map_some, rd2_sh, rdI_sh, fLst, fTup, lstV, tupV, fCB, rdC, fIsi, isiV, fCall, dIf, fSeq, fRet, fRetN, fNx, fCt, fBk, leave, fTru, tru, fBool, boolV, tAnd', tOr', tNot', opMul_l, opMul_r, opFdiv_p, opMod_p, Int.reduceLT, Int.reduceNeg, Int.reduceAdd, Int.reduceSub, Int.reduceMul, vAnd_eq, vOr_eq, andV_bool, orV_bool, bind_ite, seq_ite, turn_ite, rtOf_ite, rtOf_rt, rtOf_nx, opEq_int, opNe_int, opEq_str, opNe_str, opLt_int, opGt_int, opLe_int, opGe_int, isi_int_none, isi_int_bool, isi_int_int, isi_int_str, isi_int_list, isi_int_tuple, isi_bool_none, isi_bool_bool, isi_bool_int, isi_bool_str, isi_bool_list, isi_bool_tuple, isi_str_none, isi_str_bool, isi_str_int, isi_str_str, isi_str_list, isi_str_tuple, isi_list_none, isi_list_bool, isi_list_int, isi_list_str, isi_list_list, isi_list_tuple, isi_tuple_none, isi_tuple_bool, isi_tuple_int, isi_tuple_str, isi_tuple_list, isi_tuple_tuple, vNot, vIf, fIsN, isNV, isN, fChain_eq, truD, decide_true, decide_false, Bool.not_true, Bool.not_false, decide_eq_true_eq, Int.cast_ofNat_Int, Int.reduceLE, Int.reduceEq, Int.reduceToNat, not_true_eq_false, not_false_eq_true, Bool.true_eq_false, dSet, dSto, stS, dSetM, dMv, dAsg, gN, gT, gCons, gNil, gSubL, dPar, stosP, stoP, fConsP, dExpr, fYes, fIr, dFor, dIt, fItems, itemsOf, fApp, appV, fMt_eq, fMt0_eq, mtS_str, mtS0_str, opS_some, tyName, dSub, subV, isOw, fMut, fMut0, mutV, fExt, extV, Out.bind_ok, Out.bind_exc, Out.bind_stuck, Out.seq_nx, Out.seq_rt, Out.seq_bk, Out.seq_ct, Out.seq_exc, Out.seq_stuck, Out.back_nx, Out.back_rt, Out.back_exc, Out.turn_nx, Out.turn_rt, Out.turn_ct, Out.turn_bk, List.getElem?_cons_zero, List.getElem?_cons_succ, List.set_cons_zero, List.set_cons_succ, List.cons_append, List.nil_append, List.map_cons, List.map_nil, List.replicate, List.length_cons, List.length_nil, if_true, if_false, Bool.false_eq_true, opLen, opAdd, opSub, opIx, Sw_len, Sw_add, Sw_cut, Sw_cps, Its.grab, Its.free, Nat.zero_add, Nat.sub_zero, Nat.reduceAdd, Nat.reduceSub, call2 (long_stretches_eq (w := w) (p := p) (by omega) hp.1)]
    case hs =>
      rintro pre2 ⟨b, e⟩ post2 hx2 ρ ⟨m5, m6, rfl⟩
      have hl2 := rStep_len w p pre2 s
      have hl3 : pre2.length ≤ 101 := by
        have h2 := congrArg List.length hx2
        have h3 := stretches_len w p
        simp only [List.length_append, List.length_cons] at h2
        omega
      generalize pre2.foldl (rStep w p) s = s2 at hl2 ⊢
      refine ⟨[some (.sh (dw w)), some (.ow false (s2.map threeD)), some (.sh (natD p)), some (.sh (natD b)), some (.sh (natD e))], by cases m5 <;> cases m6 <;> rfl, ?_⟩
      refine ⟨[some (.sh (dw w)), some (.ow false ((rStep w p s2 (b, e)).map threeD)), some (.sh (natD p)), some (.sh (natD b)), some (.sh (natD e))], ⟨some (natD b), some (natD e), rfl⟩, ?_⟩
      have e1 : (b : Int) + p = ((b + p : Nat) : Int) := by omega
      have hw : (sub w b (b + p)).length ≤ 1000 := by unfold sub; simp; omega
      have hsz : (s2.map threeD).length < sizeLine := by have := sizeL; rw [List.length_map]; omega
      have hz : 3 ≤ sizeLine := by have := sizeL; omega
      simp only [fVar, fC, fFn, fBin, fIx, fSl, rdSl, opSl, fPart, partV, fNo, fNil, fCons, dArg, argv_sh, argv_fr, argv_bo, argv_sc, argv_fn, fNilD, fConsD, frz_sh, frz_fr, rd_sh, rd_fr, rdS_sh, rdS_fr, rdS_sc, rdS_bo, rdSs_nil', rdSs_sh, rdSs_sc, Option.map_some, rd2_sh, rdI_sh, fLst, fTup, lstV, tupV, fCB, rdC, fIsi, isiV, fCall, dIf, fSeq, fRet, fRetN, fNx, fCt, fBk, leave, fTru, tru, fBool, boolV, tAnd', tOr', tNot', opMul_l, opMul_r, opFdiv_p, opMod_p, Int.reduceLT, Int.reduceNeg, Int.reduceAdd, Int.reduceSub, Int.reduceMul, vAnd_eq, vOr_eq, andV_bool, orV_bool, bind_ite, seq_ite, turn_ite, rtOf_ite, rtOf_rt, rtOf_nx, opEq_int, opNe_int, opEq_str, opNe_str, opLt_int, opGt_int, opLe_int, opGe_int, isi_int_none, isi_int_bool, isi_int_int, isi_int_str, isi_int_list, isi_int_tuple, isi_bool_none, isi_bool_bool, isi_bool_int, isi_bool_str, isi_bool_list, isi_bool_tuple, isi_str_none, isi_str_bool, isi_str_int, isi_str_str, isi_str_list, isi_str_tuple, isi_list_none, isi_list_bool, isi_list_int, isi_list_str, isi_list_list, isi_list_tuple, isi_tuple_none, isi_tuple_bool, isi_tuple_int, isi_tuple_str, isi_tuple_list, isi_tuple_tuple, vNot, vIf, fIsN, isNV, isN, fChain_eq, truD, decide_true, decide_false, Bool.not_true, Bool.not_false, decide_eq_true_eq, Int.cast_ofNat_Int, Int.reduceLE, Int.reduceEq, Int.reduceToNat, not_true_eq_false, not_false_eq_true, Bool.true_eq_false, dSet, dSto, stS, dSetM, dMv, dAsg, gN, gT, gCons, gNil, gSubL, dPar, stosP, stoP, fConsP, dExpr, fYes, fIr, dFor, dIt, fItems, itemsOf, fApp, appV, fMt_eq, fMt0_eq, mtS_str, mtS0_str, opS_some, tyName, dSub, subV, isOw, fMut, fMut0, mutV, fExt, extV, Out.bind_ok, Out.bind_exc, Out.bind_stuck, Out.seq_nx, Out.seq_rt, Out.seq_bk, Out.seq_ct, Out.seq_exc, Out.seq_stuck, Out.back_nx, Out.back_rt, Out.back_exc, Out.turn_nx, Out.turn_rt, Out.turn_ct, Out.turn_bk, List.getElem?_cons_zero, List.getElem?_cons_succ, List.set_cons_zero, List.set_cons_succ, List.cons_append, List.nil_append, List.map_cons, List.map_nil, List.replicate, List.length_cons, List.length_nil, if_true, if_false, Bool.false_eq_true, opLen, opAdd, opSub, opIx, Sw_len, Sw_add, Sw_cut, Sw_cps, Its.grab, Its.free, Nat.zero_add, Nat.sub_zero, Nat.reduceAdd, Nat.reduceSub, natD, e1, cut_nn, call1 (root_round_eq hw), hsz, hz]
      by_cases h : (rootN (sub w b (b + p))).length = p
      · have h' : ((rootN (sub w b (b + p))).length : Int) = (p : Int) := by omega
        have hr : rStep w p s2 (b, e) = s2 ++ [(b, e, p)] := if_pos h
        rw [if_pos h', hr, List.map_append]
        rfl
      · have h' : ¬ ((rootN (sub w b (b + p))).length : Int) = (p : Int) := by omega
        have hr : rStep w p s2 (b, e) = s2 := if_neg h
        rw [if_neg h', hr]
end K87
namespace K87
open PySem DL
abbrev OVS : List Nat := [111, 118, 101, 114, 108, 97, 112, 115]
theorem asked_val (a b c : D) : valD (mergeD [] [(.inr (Sw [115, 113, 117, 97, 114, 101, 115]), a), (.inr (Sw OVS), b), (.inr (Sw [99, 117, 98, 101, 115]), c)]) (.inr (Sw OVS)) = some b := by rfl
theorem letters_asked_eq (p : Nat) : Gv g_letters_asked [dw OVS, natD p] (.sh (natD (2 * p + 1))) := by
  refine gv_rt ?_
  unfold b_letters_asked natD
  simp only [fVar, fC, fFn, fBin, fIx, fSl, rdSl, opSl, fPart, partV, fNo, fNil, fCons, dArg, argv_sh, argv_fr, argv_bo, argv_sc, argv_fn, fNilD, fConsD, frz_sh, frz_fr, rd_sh, rd_fr, rdS_sh, rdS_fr, rdS_sc, rdS_bo, rdSs_nil', rdSs_sh, rdSs_sc, Option.map_some, rd2_sh, rdI_sh, fLst, fTup, lstV, tupV, fCB, rdC, fIsi, isiV, fCall, dIf, fSeq, fRet, fRetN, fNx, fCt, fBk, leave, fTru, tru, fBool, boolV, tAnd', tOr', tNot', opMul_l, opMul_r, opFdiv_p, opMod_p, Int.reduceLT, Int.reduceNeg, Int.reduceAdd, Int.reduceSub, Int.reduceMul, vAnd_eq, vOr_eq, andV_bool, orV_bool, bind_ite, seq_ite, turn_ite, rtOf_ite, rtOf_rt, rtOf_nx, opEq_int, opNe_int, opEq_str, opNe_str, opLt_int, opGt_int, opLe_int, opGe_int, isi_int_none, isi_int_bool, isi_int_int, isi_int_str, isi_int_list, isi_int_tuple, isi_bool_none, isi_bool_bool, isi_bool_int, isi_bool_str, isi_bool_list, isi_bool_tuple, isi_str_none, isi_str_bool, isi_str_int, isi_str_str, isi_str_list, isi_str_tuple, isi_list_none, isi_list_bool, isi_list_int, isi_list_str, isi_list_list, isi_list_tuple, isi_tuple_none, isi_tuple_bool, isi_tuple_int, isi_tuple_str, isi_tuple_list, isi_tuple_tuple, vNot, vIf, fIsN, isNV, isN, fChain_eq, truD, decide_true, decide_false, Bool.not_true, Bool.not_false, decide_eq_true_eq, Int.cast_ofNat_Int, Int.reduceLE, Int.reduceEq, Int.reduceToNat, not_true_eq_false, not_false_eq_true, Bool.true_eq_false, dSet, dSto, stS, dSetM, dMv, dAsg, gN, gT, gCons, gNil, gSubL, dPar, stosP, stoP, fConsP, dExpr, fYes, fIr, dFor, dIt, fItems, itemsOf, fApp, appV, fMt_eq, fMt0_eq, mtS_str, mtS0_str, opS_some, tyName, dSub, subV, isOw, fMut, fMut0, mutV, fExt, extV, Out.bind_ok, Out.bind_exc, Out.bind_stuck, Out.seq_nx, Out.seq_rt, Out.seq_bk, Out.seq_ct, Out.seq_exc, Out.seq_stuck, Out.back_nx, Out.back_rt, Out.back_exc, Out.turn_nx, Out.turn_rt, Out.turn_ct, Out.turn_bk, List.getElem?_cons_zero, List.getElem?_cons_succ, List.set_cons_zero, List.set_cons_succ, List.cons_append, List.nil_append, List.map_cons, List.map_nil, List.replicate, List.length_cons, List.length_nil, if_true, if_false, Bool.false_eq_true, opLen, opAdd, opSub, opIx, Sw_len, Sw_add, Sw_cut, Sw_cps, Its.grab, Its.free, Nat.zero_add, Nat.sub_zero, Nat.reduceAdd, Nat.reduceSub, lit_squares, lit_overlaps, lit_cubes, fDsub, fPcons, fPnil, keyEV, dsubV, asked_val]
  have e : (2 : Int) * p + 1 = ((2 * p + 1 : Nat) : Int) := by omega
  rw [e]
/-! ### the first overlap by runs -/
def fStep (s : List (Nat × Nat × Nat)) (r : Nat × Nat × Nat) : List (Nat × Nat × Nat) := if r.1 + (2 * r.2.2 + 1) ≤ r.2.1 then s ++ [(r.1 + (2 * r.2.2 + 1), r.2.2, r.1)] else s
theorem fStep_len : ∀ (rs : List (Nat × Nat × Nat)) (s : List (Nat × Nat × Nat)), (rs.foldl fStep s).length ≤ s.length + rs.length
  | [], s => by simp
  | r :: rs, s => by
    have h := fStep_len rs (fStep s r)
    have h2 : (fStep s r).length ≤ s.length + 1 := by
      unfold fStep
      split <;> simp
    simp only [List.foldl_cons, List.length_cons]
    omega
def longRun (r : Nat × Nat × Nat) : Bool := decide (r.1 + (2 * r.2.2 + 1) ≤ r.2.1)
theorem fStep_nil : ∀ (rs : List (Nat × Nat × Nat)) (s : List (Nat × Nat × Nat)), (rs.foldl fStep s = [] ↔ s = [] ∧ rs.any longRun = false)
  | [], s => by simp
  | r :: rs, s => by
    rw [List.foldl_cons, fStep_nil rs (fStep s r), List.any_cons]
    unfold fStep longRun
    by_cases h : r.1 + (2 * r.2.2 + 1) ≤ r.2.1
    · simp [h]
    · simp [h]
theorem min_threes (r : Nat × Nat × Nat) (rs : List (Nat × Nat × Nat)) : minB ((r :: rs).map threeD) = true := by
  unfold minB alikeB noneB deepB
  simp only [Bool.and_eq_true, decide_eq_true_eq]
  refine ⟨⟨?_, ?_⟩, depth_threes _⟩
  · rw [List.all_eq_true]
    intro a ha
    rw [List.all_eq_true]
    intro b hb
    obtain ⟨x, _, rfl⟩ := List.mem_map.mp ha
    obtain ⟨y, _, rfl⟩ := List.mem_map.mp hb
    exact alike_three x y
  · rw [List.all_eq_true]
    intro a ha
    obtain ⟨x, _, rfl⟩ := List.mem_map.mp ha
    rfl
end K87
namespace K87
open PySem DL
theorem minD_three : ∀ (rs : List (Nat × Nat × Nat)) (r : Nat × Nat × Nat), ∃ q, PySem.W.minD (threeD r) (rs.map threeD) = threeD q
  | [], r => ⟨r, rfl⟩
  | x :: rs, r => by
    unfold PySem.W.minD
    rw [List.map_cons, List.foldl_cons]
    split
    · exact minD_three rs x
    · exact minD_three rs r
theorem any_mem {qs rs : List (Nat × Nat × Nat)} (h : ∀ r, r ∈ qs ↔ r ∈ rs) (f : Nat × Nat × Nat → Bool) : qs.any f = rs.any f := by
  rw [Bool.eq_iff_iff, List.any_eq_true, List.any_eq_true]
  exact ⟨fun ⟨x, hx, e⟩ => ⟨x, (h x).mp hx, e⟩, fun ⟨x, hx, e⟩ => ⟨x, (h x).mpr hx, e⟩⟩
theorem opNe_nil (ds : List D) (ρ : DL.Env) : opNe (.list ds) (.list []) ρ = .ok (.sh (.bool (!ds.isEmpty))) ρ := by
  unfold opNe
  rw [if_pos (by simp [PyData.depth, PyData.depthAll])]
  cases ds <;> simp [PyData.eqv, PyData.eqvAll]
theorem opMin1_l {d : D} {ds : List D} {ρ : DL.Env} (h : minB (d :: ds) = true) : opMin1 [.list (d :: ds)] ρ = .ok (.sh (PySem.W.minD d ds)) ρ := by
  show (if minB (d :: ds) = true then _ else _) = _
  rw [if_pos h]
theorem runs_cnt (w : List Nat) (hl : w.length ≤ 100) : (runsN w).length ≤ 10000 := by
  have h := runsIn_len w (List.range' 1 (w.length / 2)) []
  simp only [List.length_range', List.length_nil] at h
  have : w.length / 2 * (w.length + 1) ≤ 50 * 101 := Nat.mul_le_mul (by omega) (by omega)
  unfold runsN
  omega
theorem first_of_eq {w : List Nat} (hl : w.length ≤ 100) : ∃ v : D, isN v = !(runsN w).any longRun ∧ Gv g_first_of [dw w, dw OVS] (.sh v) := by
  obtain ⟨qs, hm, hlen, hg⟩ := runs_of_eq hl
  have hq : qs.length ≤ 10000 := by rw [hlen]; exact runs_cnt w hl
  have hany := any_mem hm longRun
  have main : ∃ v : D, isN v = !(qs.any longRun) ∧ rtOf (b_first_of [some (.sh (dw w)), some (.sh (dw OVS)), none, none, none, none, none]) = some (.sh v) := by
    unfold b_first_of
    let R : List (Nat × Nat × Nat) → DL.Env → Prop := fun s ρ => ∃ m3 m4 m5 m6 : Option D, ρ = [some (.sh (dw w)), some (.sh (dw OVS)), some (.ow false (s.map threeD)), m3.map .sh, m4.map .sh, m5.map .sh, m6.map .sh]
    have e0 : (dSet 2 (fLst (fNilD))) [some (SV.sh (dw w)), some (.sh (dw OVS)), none, none, none, none, none] = .ok .nx [some (.sh (dw w)), some (.sh (dw OVS)), some (.ow false []), none, none, none, none] := rfl
    have goal2 : ∃ v : D, isN v = !(qs.any longRun) ∧ ∀ m3 m4 m5 m6 : Option D, rtOf ((fSeq (fRet (vIf (fBool (fBin opNe (fVar 2) (fLst (fNilD)))) (fTup (fConsD (fIx (fCB opMin1 (fCons (fVar 2) (fNil))) (fC (.int 2))) (fConsD (fIx (fCB opMin1 (fCons (fVar 2) (fNil))) (fC (.int 1))) (fNilD)))) (fC .none))) (fNx)) [some (.sh (dw w)), some (.sh (dw OVS)), some (.ow false ((qs.foldl fStep []).map threeD)), m3.map .sh, m4.map .sh, m5.map .sh, m6.map .sh]) = some (.sh v) := by
      cases hf : qs.foldl fStep [] with
      | nil =>
        have hn : qs.any longRun = false := ((fStep_nil qs []).mp hf).2
        refine ⟨.none, by rw [hn]; rfl, fun m3 m4 m5 m6 => ?_⟩
        have e1 : rdSs [EV.bo 2] [some (.sh (dw w)), some (.sh (dw OVS)), some (.ow false (([] : List (Nat × Nat × Nat)).map threeD)), m3.map .sh, m4.map .sh, m5.map .sh, m6.map .sh] = some [.list (([] : List (Nat × Nat × Nat)).map threeD)] := rfl
        simp only [fVar, fC, fFn, fBin, fIx, fSl, rdSl, opSl, fPart, partV, fNo, fNil, fCons, dArg, argv_sh, argv_fr, argv_bo, argv_sc, argv_fn, fNilD, fConsD, frz_sh, frz_fr, rd_sh, rd_fr, rdS_sh, rdS_fr, rdS_sc, rdS_bo, rdSs_nil', rdSs_sh, rdSs_sc, Option.map_some, rd2_sh, rdI_sh, fLst, fTup, lstV, tupV, fCB, rdC, fIsi, isiV, fCall, dIf, fSeq, fRet, fRetN, fNx, fCt, fBk, leave, fTru, tru, fBool, boolV, tAnd', tOr', tNot', opMul_l, opMul_r, opFdiv_p, opMod_p, Int.reduceLT, Int.reduceNeg, Int.reduceAdd, Int.reduceSub, Int.reduceMul, vAnd_eq, vOr_eq, andV_bool, orV_bool, bind_ite, seq_ite, turn_ite, rtOf_ite, rtOf_rt, rtOf_nx, opEq_int, opNe_int, opEq_str, opNe_str, opLt_int, opGt_int, opLe_int, opGe_int, isi_int_none, isi_int_bool, isi_int_int, isi_int_str, isi_int_list, isi_int_tuple, isi_bool_none, isi_bool_bool, isi_bool_int, isi_bool_str, isi_bool_list, isi_bool_tuple, isi_str_none, isi_str_bool, isi_str_int, isi_str_str, isi_str_list, isi_str_tuple, isi_list_none, isi_list_bool, isi_list_int, isi_list_str, isi_list_list, isi_list_tuple, isi_tuple_none, isi_tuple_bool, isi_tuple_int, isi_tuple_str, isi_tuple_list, isi_tuple_tuple, vNot, vIf, fIsN, isNV, isN, fChain_eq, truD, decide_true, decide_false, Bool.not_true, Bool.not_false, decide_eq_true_eq, Int.cast_ofNat_Int, Int.reduceLE, Int.reduceEq, Int.reduceToNat, not_true_eq_false, not_false_eq_true, Bool.true_eq_false, dSet, dSto, stS, dSetM, dMv, dAsg, gN, gT, gCons, gNil, gSubL, dPar, stosP, stoP, fConsP, dExpr, fYes, fIr, dFor, dIt, fItems, itemsOf, fApp, appV, fMt_eq, fMt0_eq, mtS_str, mtS0_str, opS_some, tyName, dSub, subV, isOw, fMut, fMut0, mutV, fExt, extV, Out.bind_ok, Out.bind_exc, Out.bind_stuck, Out.seq_nx, Out.seq_rt, Out.seq_bk, Out.seq_ct, Out.seq_exc, Out.seq_stuck, Out.back_nx, Out.back_rt, Out.back_exc, Out.turn_nx, Out.turn_rt, Out.turn_ct, Out.turn_bk, List.getElem?_cons_zero, List.getElem?_cons_succ, List.set_cons_zero, List.set_cons_succ, List.cons_append, List.nil_append, List.map_cons, List.map_nil, List.replicate, List.length_cons, List.length_nil, if_true, if_false, Bool.false_eq_true, opLen, opAdd, opSub, opIx, Sw_len, Sw_add, Sw_cut, Sw_cps, Its.grab, Its.free, Nat.zero_add, Nat.sub_zero, Nat.reduceAdd, Nat.reduceSub, opNe_nil]
        rfl
      | cons r rs =>
        have hn : qs.any longRun = true := by
          cases h : qs.any longRun with
          | true => rfl
          | false =>
            have := (fStep_nil qs []).mpr ⟨rfl, h⟩
            rw [hf] at this; cases this
        obtain ⟨q, hq⟩ := minD_three rs r
        refine ⟨.tuple [natD q.2.2, natD q.2.1], by rw [hn]; rfl, fun m3 m4 m5 m6 => ?_⟩
        have e1 : rdSs [EV.bo 2] [some (.sh (dw w)), some (.sh (dw OVS)), some (.ow false ((r :: rs).map threeD)), m3.map .sh, m4.map .sh, m5.map .sh, m6.map .sh] = some [.list ((r :: rs).map threeD)] := rfl
        have hE : ∀ ρ : DL.Env, ρ = [some (.sh (dw w)), some (.sh (dw OVS)), some (.ow false ((r :: rs).map threeD)), m3.map .sh, m4.map .sh, m5.map .sh, m6.map .sh] → rd2 opNe (.bo 2) (.fr []) ρ = .ok (.sh (.bool true)) ρ ∧ rdC opMin1 [.bo 2] ρ = .ok (.sh (threeD q)) ρ := by
          rintro ρ rfl
          refine ⟨?_, ?_⟩
          · refine (opNe_nil ((r :: rs).map threeD) _).trans rfl
          · have h : opMin1 [.list ((r :: rs).map threeD)] [some (.sh (dw w)), some (.sh (dw OVS)), some (.ow false ((r :: rs).map threeD)), m3.map .sh, m4.map .sh, m5.map .sh, m6.map .sh] = .ok (.sh (threeD q)) [some (.sh (dw w)), some (.sh (dw OVS)), some (.ow false ((r :: rs).map threeD)), m3.map .sh, m4.map .sh, m5.map .sh, m6.map .sh] := by
              have h := min_threes r rs
              rw [List.map_cons] at h ⊢
              rw [opMin1_l h, hq]
            exact h
        have hE2 := hE _ rfl
        generalize hρ : [some (SV.sh (dw w)), some (SV.sh (dw OVS)), some (.ow false ((r :: rs).map threeD)), m3.map .sh, m4.map .sh, m5.map .sh, m6.map .sh] = ρ at hE2 ⊢
        have hv : fVar 2 ρ = .ok (.bo 2) ρ := by rw [← hρ]; rfl
        have hz : 0 ≤ sizeLine := Nat.zero_le _
        have ha : argv (.bo 2) = .bo 2 := rfl
        have hc : fCB opMin1 (fCons (fVar 2) fNil) ρ = .ok (.sh (threeD q)) ρ := by
          have hcons : fCons (fVar 2) fNil ρ = .ok [.bo 2] ρ := by
            unfold fCons fNil dArg
            rw [hv]; rfl
          unfold fCB
          rw [hcons]
          exact hE2.2
        have hl : fLst fNilD ρ = .ok (.fr []) ρ := rfl
        have t2 : L2.atI [natD q.1, natD q.2.1, natD q.2.2] 2 = some (natD q.2.2) := atI_two _ _ _ _
        have t1 : L2.atI [natD q.1, natD q.2.1, natD q.2.2] 1 = some (natD q.2.1) := atI_one _ _ _
        have i2 : fIx (fCB opMin1 (fCons (fVar 2) fNil)) (fC (.int 2)) ρ = .ok (.sh (natD q.2.2)) ρ := by
          unfold fIx
          rw [hc]
          unfold threeD
          simp only [fVar, fC, fFn, fBin, fIx, fSl, rdSl, opSl, fPart, partV, fNo, fNil, fCons, dArg, argv_sh, argv_fr, argv_bo, argv_sc, argv_fn, fNilD, fConsD, frz_sh, frz_fr, rd_sh, rd_fr, rdS_sh, rdS_fr, rdS_sc, rdS_bo, rdSs_nil', rdSs_sh, rdSs_sc, Option.map_some, rd2_sh, rdI_sh, fLst, fTup, lstV, tupV, fCB, rdC, fIsi, isiV, fCall, dIf, fSeq, fRet, fRetN, fNx, fCt, fBk, leave, fTru, tru, fBool, boolV, tAnd', tOr', tNot', opMul_l, opMul_r, opFdiv_p, opMod_p, Int.reduceLT, Int.reduceNeg, Int.reduceAdd, Int.reduceSub, Int.reduceMul, vAnd_eq, vOr_eq, andV_bool, orV_bool, bind_ite, seq_ite, turn_ite, rtOf_ite, rtOf_rt, rtOf_nx, opEq_int, opNe_int, opEq_str, opNe_str, opLt_int, opGt_int, opLe_int, opGe_int, isi_int_none, isi_int_bool, isi_int_int, isi_int_str, isi_int_list, isi_int_tuple, isi_bool_none, isi_bool_bool, isi_bool_int, isi_bool_str, isi_bool_list, isi_bool_tuple, isi_str_none, isi_str_bool, isi_str_int, isi_str_str, isi_str_list, isi_str_tuple, isi_list_none, isi_list_bool, isi_list_int, isi_list_str, isi_list_list, isi_list_tuple, isi_tuple_none, isi_tuple_bool, isi_tuple_int, isi_tuple_str, isi_tuple_list, isi_tuple_tuple, vNot, vIf, fIsN, isNV, isN, fChain_eq, truD, decide_true, decide_false, Bool.not_true, Bool.not_false, decide_eq_true_eq, Int.cast_ofNat_Int, Int.reduceLE, Int.reduceEq, Int.reduceToNat, not_true_eq_false, not_false_eq_true, Bool.true_eq_false, dSet, dSto, stS, dSetM, dMv, dAsg, gN, gT, gCons, gNil, gSubL, dPar, stosP, stoP, fConsP, dExpr, fYes, fIr, dFor, dIt, fItems, itemsOf, fApp, appV, fMt_eq, fMt0_eq, mtS_str, mtS0_str, opS_some, tyName, dSub, subV, isOw, fMut, fMut0, mutV, fExt, extV, Out.bind_ok, Out.bind_exc, Out.bind_stuck, Out.seq_nx, Out.seq_rt, Out.seq_bk, Out.seq_ct, Out.seq_exc, Out.seq_stuck, Out.back_nx, Out.back_rt, Out.back_exc, Out.turn_nx, Out.turn_rt, Out.turn_ct, Out.turn_bk, List.getElem?_cons_zero, List.getElem?_cons_succ, List.set_cons_zero, List.set_cons_succ, List.cons_append, List.nil_append, List.map_cons, List.map_nil, List.replicate, List.length_cons, List.length_nil, if_true, if_false, Bool.false_eq_true, opLen, opAdd, opSub, opIx, Sw_len, Sw_add, Sw_cut, Sw_cps, Its.grab, Its.free, Nat.zero_add, Nat.sub_zero, Nat.reduceAdd, Nat.reduceSub, t2]
        have i1 : fIx (fCB opMin1 (fCons (fVar 2) fNil)) (fC (.int 1)) ρ = .ok (.sh (natD q.2.1)) ρ := by
          unfold fIx
          rw [hc]
          unfold threeD
          simp only [fVar, fC, fFn, fBin, fIx, fSl, rdSl, opSl, fPart, partV, fNo, fNil, fCons, dArg, argv_sh, argv_fr, argv_bo, argv_sc, argv_fn, fNilD, fConsD, frz_sh, frz_fr, rd_sh, rd_fr, rdS_sh, rdS_fr, rdS_sc, rdS_bo, rdSs_nil', rdSs_sh, rdSs_sc, Option.map_some, rd2_sh, rdI_sh, fLst, fTup, lstV, tupV, fCB, rdC, fIsi, isiV, fCall, dIf, fSeq, fRet, fRetN, fNx, fCt, fBk, leave, fTru, tru, fBool, boolV, tAnd', tOr', tNot', opMul_l, opMul_r, opFdiv_p, opMod_p, Int.reduceLT, Int.reduceNeg, Int.reduceAdd, Int.reduceSub, Int.reduceMul, vAnd_eq, vOr_eq, andV_bool, orV_bool, bind_ite, seq_ite, turn_ite, rtOf_ite, rtOf_rt, rtOf_nx, opEq_int, opNe_int, opEq_str, opNe_str, opLt_int, opGt_int, opLe_int, opGe_int, isi_int_none, isi_int_bool, isi_int_int, isi_int_str, isi_int_list, isi_int_tuple, isi_bool_none, isi_bool_bool, isi_bool_int, isi_bool_str, isi_bool_list, isi_bool_tuple, isi_str_none, isi_str_bool, isi_str_int, isi_str_str, isi_str_list, isi_str_tuple, isi_list_none, isi_list_bool, isi_list_int, isi_list_str, isi_list_list, isi_list_tuple, isi_tuple_none, isi_tuple_bool, isi_tuple_int, isi_tuple_str, isi_tuple_list, isi_tuple_tuple, vNot, vIf, fIsN, isNV, isN, fChain_eq, truD, decide_true, decide_false, Bool.not_true, Bool.not_false, decide_eq_true_eq, Int.cast_ofNat_Int, Int.reduceLE, Int.reduceEq, Int.reduceToNat, not_true_eq_false, not_false_eq_true, Bool.true_eq_false, dSet, dSto, stS, dSetM, dMv, dAsg, gN, gT, gCons, gNil, gSubL, dPar, stosP, stoP, fConsP, dExpr, fYes, fIr, dFor, dIt, fItems, itemsOf, fApp, appV, fMt_eq, fMt0_eq, mtS_str, mtS0_str, opS_some, tyName, dSub, subV, isOw, fMut, fMut0, mutV, fExt, extV, Out.bind_ok, Out.bind_exc, Out.bind_stuck, Out.seq_nx, Out.seq_rt, Out.seq_bk, Out.seq_ct, Out.seq_exc, Out.seq_stuck, Out.back_nx, Out.back_rt, Out.back_exc, Out.turn_nx, Out.turn_rt, Out.turn_ct, Out.turn_bk, List.getElem?_cons_zero, List.getElem?_cons_succ, List.set_cons_zero, List.set_cons_succ, List.cons_append, List.nil_append, List.map_cons, List.map_nil, List.replicate, List.length_cons, List.length_nil, if_true, if_false, Bool.false_eq_true, opLen, opAdd, opSub, opIx, Sw_len, Sw_add, Sw_cut, Sw_cps, Its.grab, Its.free, Nat.zero_add, Nat.sub_zero, Nat.reduceAdd, Nat.reduceSub, t1]
        have cnd : fBool (fBin opNe (fVar 2) (fLst fNilD)) ρ = .ok true ρ := by
          unfold fBool fBin
          rw [hv]
          simp only [Out.bind_ok, hl, hE2.1]
          rfl
        unfold fSeq fRet vIf
        rw [cnd]
        simp only [Out.bind_ok, if_true, fTup, fConsD, fNilD, i2, i1, frz_sh, tupV, List.length_cons, List.length_nil, leave, Out.seq_rt, rtOf_rt]
        rw [if_pos (by have := sizeL; omega)]
        rfl
    obtain ⟨v, hv1, hv2⟩ := goal2
    refine ⟨v, hv1, ?_⟩
    refine (congrArg (fun o => rtOf (Out.seq o _)) e0).trans ?_
    rw [Out.seq_nx]
    refine seq_foldP (fun o => rtOf o = _) qs threeD R fStep [] (ρ1 := [some (.sh (dw w)), some (.sh (dw OVS)), some (.ow false []), none, none, none, none]) ?hi ⟨none, none, none, none, rfl⟩ ?hs ?hm
    case hi =>
      simp only [fVar, fC, fFn, fBin, fIx, fSl, rdSl, opSl, fPart, partV, fNo, fNil, fCons, dArg, argv_sh, argv_fr, argv_bo, argv_sc, argv_fn, fNilD, fConsD, frz_sh, frz_fr, rd_sh, rd_fr, rdS_sh, rdS_fr, rdS_sc, rdS_bo, rdSs_nil', rdSs_sh, rdSs_sc, Option.map_some, rd2_sh, rdI_sh, fLst, fTup, lstV, tupV, fCB, rdC, fIsi, isiV, fCall, dIf, fSeq, fRet, fRetN, fNx, fCt, fBk, leave, fTru, tru, fBool, boolV, tAnd', tOr', tNot', opMul_l, opMul_r, opFdiv_p, opMod_p, Int.reduceLT, Int.reduceNeg, Int.reduceAdd, Int.reduceSub, Int.reduceMul, vAnd_eq, vOr_eq, andV_bool, orV_bool, bind_ite, seq_ite, turn_ite, rtOf_ite, rtOf_rt, rtOf_nx, opEq_int, opNe_int, opEq_str, opNe_str, opLt_int, opGt_int, opLe_int, opGe_int, isi_int_none, isi_int_bool, isi_int_int, isi_int_str, isi_int_list, isi_int_tuple, isi_bool_none, isi_bool_bool, isi_bool_int, isi_bool_str, isi_bool_list, isi_bool_tuple, isi_str_none, isi_str_bool, isi_str_int, isi_str_str, isi_str_list, isi_str_tuple, isi_list_none, isi_list_bool, isi_list_int, isi_list_str, isi_list_list, isi_list_tuple, isi_tuple_none, isi_tuple_bool, isi_tuple_int, isi_tuple_str, isi_tuple_list, isi_tuple_tuple, vNot, vIf, fIsN, isNV, isN, fChain_eq, truD, decide_true, decide_false, Bool.not_true, Bool.not_false, decide_eq_true_eq, Int.cast_ofNat_Int, Int.reduceLE, Int.reduceEq, Int.reduceToNat, not_true_eq_false, not_false_eq_true, Bool.true_eq_false, dSet, dSto, stS, dSetM, dMv, dAsg, gN, gT, gCons, gNil, gSubL, dPar, stosP, stoP, fConsP, dExpr, fYes, fIr, dFor, dIt, fItems, itemsOf, fApp, appV, fMt_eq, fMt0_eq, mtS_str, mtS0_str, opS_some, tyName, dSub, subV, isOw, fMut, fMut0, mutV, fExt, extV, Out.bind_ok, Out.bind_exc, Out.bind_stuck, Out.seq_nx, Out.seq_rt, Out.seq_bk, Out.seq_ct, Out.seq_exc, Out.seq_stuck, Out.back_nx, Out.back_rt, Out.back_exc, Out.turn_nx, Out.turn_rt, Out.turn_ct, Out.turn_bk, List.getElem?_cons_zero, List.getElem?_cons_succ, List.set_cons_zero, List.set_cons_succ, List.cons_append, List.nil_append, List.map_cons, List.map_nil, List.replicate, List.length_cons, List.length_nil, if_true, if_false, Bool.false_eq_true, opLen, opAdd, opSub, opIx, Sw_len, Sw_add, Sw_cut, Sw_cps, Its.grab, Its.free, Nat.zero_add, Nat.sub_zero, Nat.reduceAdd, Nat.reduceSub, call1 hg]
    case hm =>
      rintro ρ2 ⟨m3, m4, m5, m6, rfl⟩
      exact hv2 m3 m4 m5 m6
    case hs =>
      rintro pre ⟨b, e, p⟩ post hx ρ ⟨m3, m4, m5, m6, rfl⟩
      have hfl := fStep_len pre []
      have hpl : pre.length ≤ 10000 := by
        have h2 := congrArg List.length hx
        simp only [List.length_append, List.length_cons] at h2
        omega
      generalize pre.foldl fStep [] = s at hfl ⊢
      simp only [List.length_nil, Nat.zero_add] at hfl
      refine ⟨[some (.sh (dw w)), some (.sh (dw OVS)), some (.ow false (s.map threeD)), some (.sh (natD b)), some (.sh (natD e)), some (.sh (natD p)), m6.map .sh], by cases m3 <;> cases m4 <;> cases m5 <;> rfl, ?_⟩
      refine ⟨[some (.sh (dw w)), some (.sh (dw OVS)), some (.ow false ((fStep s (b, e, p)).map threeD)), some (.sh (natD b)), some (.sh (natD e)), some (.sh (natD p)), some (.sh (natD (2 * p + 1)))], ⟨some (natD b), some (natD e), some (natD p), some (natD (2 * p + 1)), rfl⟩, ?_⟩
      have hsz : (s.map threeD).length < sizeLine := by have := sizeL; rw [List.length_map]; omega
      have hz : 3 ≤ sizeLine := by have := sizeL; omega
      have e6 : dSet 6 (fCall 2 g_letters_asked (fCons (fVar 1) (fCons (fVar 5) fNil))) [some (.sh (dw w)), some (.sh (dw OVS)), some (.ow false (s.map threeD)), some (.sh (natD b)), some (.sh (natD e)), some (.sh (natD p)), m6.map .sh] = .ok .nx [some (.sh (dw w)), some (.sh (dw OVS)), some (.ow false (s.map threeD)), some (.sh (natD b)), some (.sh (natD e)), some (.sh (natD p)), some (.sh (natD (2 * p + 1)))] := by
        simp only [fVar, fC, fFn, fBin, fIx, fSl, rdSl, opSl, fPart, partV, fNo, fNil, fCons, dArg, argv_sh, argv_fr, argv_bo, argv_sc, argv_fn, fNilD, fConsD, frz_sh, frz_fr, rd_sh, rd_fr, rdS_sh, rdS_fr, rdS_sc, rdS_bo, rdSs_nil', rdSs_sh, rdSs_sc, Option.map_some, rd2_sh, rdI_sh, fLst, fTup, lstV, tupV, fCB, rdC, fIsi, isiV, fCall, dIf, fSeq, fRet, fRetN, fNx, fCt, fBk, leave, fTru, tru, fBool, boolV, tAnd', tOr', tNot', opMul_l, opMul_r, opFdiv_p, opMod_p, Int.reduceLT, Int.reduceNeg, Int.reduceAdd, Int.reduceSub, Int.reduceMul, vAnd_eq, vOr_eq, andV_bool, orV_bool, bind_ite, seq_ite, turn_ite, rtOf_ite, rtOf_rt, rtOf_nx, opEq_int, opNe_int, opEq_str, opNe_str, opLt_int, opGt_int, opLe_int, opGe_int, isi_int_none, isi_int_bool, isi_int_int, isi_int_str, isi_int_list, isi_int_tuple, isi_bool_none, isi_bool_bool, isi_bool_int, isi_bool_str, isi_bool_list, isi_bool_tuple, isi_str_none, isi_str_bool, isi_str_int, isi_str_str, isi_str_list, isi_str_tuple, isi_list_none, isi_list_bool, isi_list_int, isi_list_str, isi_list_list, isi_list_tuple, isi_tuple_none, isi_tuple_bool, isi_tuple_int, isi_tuple_str, isi_tuple_list, isi_tuple_tuple, vNot, vIf, fIsN, isNV, isN, fChain_eq, truD, decide_true, decide_false, Bool.not_true, Bool.not_false, decide_eq_true_eq, Int.cast_ofNat_Int, Int.reduceLE, Int.reduceEq, Int.reduceToNat, not_true_eq_false, not_false_eq_true, Bool.true_eq_false, dSet, dSto, stS, dSetM, dMv, dAsg, gN, gT, gCons, gNil, gSubL, dPar, stosP, stoP, fConsP, dExpr, fYes, fIr, dFor, dIt, fItems, itemsOf, fApp, appV, fMt_eq, fMt0_eq, mtS_str, mtS0_str, opS_some, tyName, dSub, subV, isOw, fMut, fMut0, mutV, fExt, extV, Out.bind_ok, Out.bind_exc, Out.bind_stuck, Out.seq_nx, Out.seq_rt, Out.seq_bk, Out.seq_ct, Out.seq_exc, Out.seq_stuck, Out.back_nx, Out.back_rt, Out.back_exc, Out.turn_nx, Out.turn_rt, Out.turn_ct, Out.turn_bk, List.getElem?_cons_zero, List.getElem?_cons_succ, List.set_cons_zero, List.set_cons_succ, List.cons_append, List.nil_append, List.map_cons, List.map_nil, List.replicate, List.length_cons, List.length_nil, if_true, if_false, Bool.false_eq_true, opLen, opAdd, opSub, opIx, Sw_len, Sw_add, Sw_cut, Sw_cps, Its.grab, Its.free, Nat.zero_add, Nat.sub_zero, Nat.reduceAdd, Nat.reduceSub, call2 (letters_asked_eq p)]
        cases m6 <;> rfl
      refine (congrArg (fun o => Out.seq o _) e6).trans ?_
      rw [Out.seq_nx]
      simp only [fVar, fC, fFn, fBin, fIx, fSl, rdSl, opSl, fPart, partV, fNo, fNil, fCons, dArg, argv_sh, argv_fr, argv_bo, argv_sc, argv_fn, fNilD, fConsD, frz_sh, frz_fr, rd_sh, rd_fr, rdS_sh, rdS_fr, rdS_sc, rdS_bo, rdSs_nil', rdSs_sh, rdSs_sc, Option.map_some, rd2_sh, rdI_sh, fLst, fTup, lstV, tupV, fCB, rdC, fIsi, isiV, fCall, dIf, fSeq, fRet, fRetN, fNx, fCt, fBk, leave, fTru, tru, fBool, boolV, tAnd', tOr', tNot', opMul_l, opMul_r, opFdiv_p, opMod_p, Int.reduceLT, Int.reduceNeg, Int.reduceAdd, Int.reduceSub, Int.reduceMul, vAnd_eq, vOr_eq, andV_bool, orV_bool, bind_ite, seq_ite, turn_ite, rtOf_ite, rtOf_rt, rtOf_nx, opEq_int, opNe_int, opEq_str, opNe_str, opLt_int, opGt_int, opLe_int, opGe_int, isi_int_none, isi_int_bool, isi_int_int, isi_int_str, isi_int_list, isi_int_tuple, isi_bool_none, isi_bool_bool, isi_bool_int, isi_bool_str, isi_bool_list, isi_bool_tuple, isi_str_none, isi_str_bool, isi_str_int, isi_str_str, isi_str_list, isi_str_tuple, isi_list_none, isi_list_bool, isi_list_int, isi_list_str, isi_list_list, isi_list_tuple, isi_tuple_none, isi_tuple_bool, isi_tuple_int, isi_tuple_str, isi_tuple_list, isi_tuple_tuple, vNot, vIf, fIsN, isNV, isN, fChain_eq, truD, decide_true, decide_false, Bool.not_true, Bool.not_false, decide_eq_true_eq, Int.cast_ofNat_Int, Int.reduceLE, Int.reduceEq, Int.reduceToNat, not_true_eq_false, not_false_eq_true, Bool.true_eq_false, dSet, dSto, stS, dSetM, dMv, dAsg, gN, gT, gCons, gNil, gSubL, dPar, stosP, stoP, fConsP, dExpr, fYes, fIr, dFor, dIt, fItems, itemsOf, fApp, appV, fMt_eq, fMt0_eq, mtS_str, mtS0_str, opS_some, tyName, dSub, subV, isOw, fMut, fMut0, mutV, fExt, extV, Out.bind_ok, Out.bind_exc, Out.bind_stuck, Out.seq_nx, Out.seq_rt, Out.seq_bk, Out.seq_ct, Out.seq_exc, Out.seq_stuck, Out.back_nx, Out.back_rt, Out.back_exc, Out.turn_nx, Out.turn_rt, Out.turn_ct, Out.turn_bk, List.getElem?_cons_zero, List.getElem?_cons_succ, List.set_cons_zero, List.set_cons_succ, List.cons_append, List.nil_append, List.map_cons, List.map_nil, List.replicate, List.length_cons, List.length_nil, if_true, if_false, Bool.false_eq_true, opLen, opAdd, opSub, opIx, Sw_len, Sw_add, Sw_cut, Sw_cps, Its.grab, Its.free, Nat.zero_add, Nat.sub_zero, Nat.reduceAdd, Nat.reduceSub, natD, hsz, hz]
      by_cases h : b + (2 * p + 1) ≤ e
      · have h' : ((2 * p + 1 : Nat) : Int) ≤ (e : Int) - b := by omega
        have hr : fStep s (b, e, p) = s ++ [(b + (2 * p + 1), p, b)] := if_pos h
        rw [if_pos h', hr, List.map_append]
        rfl
      · have h' : ¬ ((2 * p + 1 : Nat) : Int) ≤ (e : Int) - b := by omega
        have hr : fStep s (b, e, p) = s := if_neg h
        rw [if_neg h', hr]
  obtain ⟨v, h1, h2⟩ := main
  refine ⟨v, by rw [h1, hany], gv_rt h2⟩
end K87
namespace K87
open PySem DL
theorem txt_len100 {u v : List Nat} (h : Ok u v) : (txt u v).length ≤ 100 := by
  obtain ⟨h1, h2, h3, h4, h5, h6⟩ := h
  have key : ∀ w : List Nat, (img u v w).length ≤ 12 * w.length := by
    intro w
    induction w with
    | nil => simp [img]
    | cons c w ih =>
      unfold img
      split <;> simp <;> omega
  have := key TT
  have e : TT.length = 8 := rfl
  unfold txt
  omega
def keepsN (u v : List Nat) : Bool := !(runsN (txt u v)).any longRun
theorem keeps_eq {u v : List Nat} (h : Ok u v) : Gv g_keeps_overlap_free [imD u v] (.sh (.bool (keepsN u v))) := by
  obtain ⟨x, hx, hg⟩ := first_of_eq (txt_len100 h)
  refine gv_rt ?_
  unfold b_keeps_overlap_free
  simp only [fVar, fC, fFn, fBin, fIx, fSl, rdSl, opSl, fPart, partV, fNo, fNil, fCons, dArg, argv_sh, argv_fr, argv_bo, argv_sc, argv_fn, fNilD, fConsD, frz_sh, frz_fr, rd_sh, rd_fr, rdS_sh, rdS_fr, rdS_sc, rdS_bo, rdSs_nil', rdSs_sh, rdSs_sc, Option.map_some, rd2_sh, rdI_sh, fLst, fTup, lstV, tupV, fCB, rdC, fIsi, isiV, fCall, dIf, fSeq, fRet, fRetN, fNx, fCt, fBk, leave, fTru, tru, fBool, boolV, tAnd', tOr', tNot', opMul_l, opMul_r, opFdiv_p, opMod_p, Int.reduceLT, Int.reduceNeg, Int.reduceAdd, Int.reduceSub, Int.reduceMul, vAnd_eq, vOr_eq, andV_bool, orV_bool, bind_ite, seq_ite, turn_ite, rtOf_ite, rtOf_rt, rtOf_nx, opEq_int, opNe_int, opEq_str, opNe_str, opLt_int, opGt_int, opLe_int, opGe_int, isi_int_none, isi_int_bool, isi_int_int, isi_int_str, isi_int_list, isi_int_tuple, isi_bool_none, isi_bool_bool, isi_bool_int, isi_bool_str, isi_bool_list, isi_bool_tuple, isi_str_none, isi_str_bool, isi_str_int, isi_str_str, isi_str_list, isi_str_tuple, isi_list_none, isi_list_bool, isi_list_int, isi_list_str, isi_list_list, isi_list_tuple, isi_tuple_none, isi_tuple_bool, isi_tuple_int, isi_tuple_str, isi_tuple_list, isi_tuple_tuple, vNot, vIf, fIsN, isNV, isN, fChain_eq, truD, decide_true, decide_false, Bool.not_true, Bool.not_false, decide_eq_true_eq, Int.cast_ofNat_Int, Int.reduceLE, Int.reduceEq, Int.reduceToNat, not_true_eq_false, not_false_eq_true, Bool.true_eq_false, dSet, dSto, stS, dSetM, dMv, dAsg, gN, gT, gCons, gNil, gSubL, dPar, stosP, stoP, fConsP, dExpr, fYes, fIr, dFor, dIt, fItems, itemsOf, fApp, appV, fMt_eq, fMt0_eq, mtS_str, mtS0_str, opS_some, tyName, dSub, subV, isOw, fMut, fMut0, mutV, fExt, extV, Out.bind_ok, Out.bind_exc, Out.bind_stuck, Out.seq_nx, Out.seq_rt, Out.seq_bk, Out.seq_ct, Out.seq_exc, Out.seq_stuck, Out.back_nx, Out.back_rt, Out.back_exc, Out.turn_nx, Out.turn_rt, Out.turn_ct, Out.turn_bk, List.getElem?_cons_zero, List.getElem?_cons_succ, List.set_cons_zero, List.set_cons_succ, List.cons_append, List.nil_append, List.map_cons, List.map_nil, List.replicate, List.length_cons, List.length_nil, if_true, if_false, Bool.false_eq_true, opLen, opAdd, opSub, opIx, Sw_len, Sw_add, Sw_cut, Sw_cps, Its.grab, Its.free, Nat.zero_add, Nat.sub_zero, Nat.reduceAdd, Nat.reduceSub, lit_test, lit_overlaps, call1 (check_two_ok h), call2 (image_txt h), call2 hg]
  show some (EV.sh (.bool (false != isN x))) = _
  rw [hx, bne_false_id]
  rfl
/-! ### the finite part -/
def flip1 (c : Nat) : Nat := if c = 97 then 98 else 97
def flipW (w : List Nat) : List Nat := w.map flip1
def roots : List (List Nat) := [[97], [97, 98], [97, 98, 98, 97], TT]
def rowsP : List (List Nat × List Nat) := roots.flatMap fun w => [(w, flipW w), (flipW w, w)]
def bentAt (w : List Nat) (i : Nat) : List Nat := w.take i ++ [flip1 (w.getD i 0)] ++ w.drop (i + 1)
def bents : List (List Nat × List Nat) := rowsP.flatMap fun r => (List.range r.1.length).map (fun i => (bentAt r.1 i, r.2)) ++ (List.range r.2.length).map (fun i => (r.1, bentAt r.2 i))
def exts (ws : List (List Nat)) : List (List Nat) := ws.flatMap fun w => [w ++ [97], w ++ [98]]
def wordsN : Nat → List (List Nat)
  | 0 => [[]]
  | n + 1 => exts (wordsN n)
def words4 : List (List Nat) := wordsN 1 ++ wordsN 2 ++ wordsN 3 ++ wordsN 4
def eqP (a b : List Nat × List Nat) : Bool := decide (a.1 = b.1) && decide (a.2 = b.2)
def isRow (u v : List Nat) : Bool := rowsP.any fun r => eqP r (u, v)
def goodP (u v : List Nat) : Bool := (keepsN u v == (ovF (txt u v)).isNone) && ((ovF (txt u v)).isNone == isRow u v)

def longQ (w : List Nat) (p : Nat) (r : Nat × Nat) : Bool := longRun (r.1, r.2, p) && decide ((rootN (sub w r.1 (r.1 + p))).length = p)
def quick (w : List Nat) : Bool := (List.range' 1 (w.length / 2)).any fun p => (stretches w p).any (longQ w p)
theorem rStep_any (w : List Nat) (p : Nat) : ∀ (rs : List (Nat × Nat)) (s : List (Nat × Nat × Nat)), (rs.foldl (rStep w p) s).any longRun = (s.any longRun || rs.any (longQ w p))
  | [], s => by simp
  | r :: rs, s => by
    rw [List.foldl_cons, rStep_any w p rs, List.any_cons, ← Bool.or_assoc]
    congr 1
    unfold rStep longQ
    by_cases h : (rootN (sub w r.1 (r.1 + p))).length = p
    · rw [if_pos h, List.any_append, decide_eq_true h]; simp
    · rw [if_neg h, decide_eq_false h]; simp
theorem runsIn_any (w : List Nat) : ∀ (ps : List Nat) (s : List (Nat × Nat × Nat)), (ps.foldl (runsIn w) s).any longRun = (s.any longRun || ps.any fun p => (stretches w p).any (longQ w p))
  | [], s => by simp
  | p :: ps, s => by
    rw [List.foldl_cons, runsIn_any w ps, List.any_cons, ← Bool.or_assoc]
    congr 1
    exact rStep_any w p (stretches w p) s
theorem quick_eq (w : List Nat) : (runsN w).any longRun = quick w := by
  unfold runsN quick
  rw [runsIn_any]
  simp
def goodQ (u v : List Nat) : Bool := ((!quick (txt u v)) == (ovF (txt u v)).isNone) && ((ovF (txt u v)).isNone == isRow u v)
theorem goodQ_eq (u v : List Nat) : goodP u v = goodQ u v := by
  unfold goodP goodQ keepsN
  rw [quick_eq]
end K87
namespace K87
open PySem DL
/-! ### the law's draws -/
theorem rdI_bo0 (b : Bool) (ds : List D) (ρ : DL.Env) (d : D) : rdI (.bo 0) (.sh d) (some (.ow b ds) :: ρ) = opIx (.list ds) d (some (.ow b ds) :: ρ) := rfl
theorem ar_bo (i : Nat) : argv (.bo i) = .bo i := rfl
theorem gSub0 (b : Bool) (x y d : D) (ρ : DL.Env) : gSubL 0 0 d (some (.ow b [x, y]) :: ρ) = some (some (.ow b [d, y]) :: ρ) := rfl
theorem gSub1 (b : Bool) (x y d : D) (ρ : DL.Env) : gSubL 0 1 d (some (.ow b [x, y]) :: ρ) = some (some (.ow b [x, d]) :: ρ) := rfl
theorem ix20 : L2.ixN 2 0 = some 0 := by decide
theorem ix21 : L2.ixN 2 1 = some 1 := by decide
theorem opIx0 (x y : D) (ρ : DL.Env) : opIx (.list [x, y]) (.int 0) ρ = .ok (.sh x) ρ := rfl
theorem opIx1 (x y : D) (ρ : DL.Env) : opIx (.list [x, y]) (.int 1) ρ = .ok (.sh y) ρ := rfl
def PotL (ds : List D) : Prop := ∃ x y : Int, ds = [.int x, .int y] ∧ 0 ≤ y ∧ y < 4294967296
theorem divmod_eq {i : Int} {n : Nat} (hn : 0 < n) (h2 : n < 1000000000) (ρ : DL.Env) : opDivmod [.int i, .int n] ρ = .ok (.sh (.tuple [.int (i / n), .int (i % n)])) ρ := by
  simp only [opDivmod]
  rw [if_pos ⟨by omega, PyProof.noPylong_small (by omega)⟩]
theorem law_draw {ds : List D} (h : PotL ds) {n : Nat} (hn : 0 < n) (h2 : n < 1000000000) : ∃ (d : Nat) (ds' : List D), d < n ∧ PotL ds' ∧ GvP g__law_draw ds [natD n] (.sh (natD d)) ds' := by
  obtain ⟨x, y, rfl, hy, hy2⟩ := h
  by_cases hx : 0 < x
  · have hn0 : (0 : Int) < n := by omega
    have q1 := Int.emod_nonneg x (show (n : Int) ≠ 0 by omega)
    have q2 := Int.emod_lt_of_pos x hn0
    refine ⟨(x % n).toNat, [.int (x / n), .int y], by omega, ⟨_, _, rfl, hy, hy2⟩, ?_⟩
    refine gvp_rt ?_
    unfold b__law_draw natD
    have e : ((x % (n : Int)).toNat : Int) = x % n := by omega
    simp only [fVar, fC, fFn, fBin, fIx, fSl, rdSl, opSl, fPart, partV, fNo, fNil, fCons, dArg, argv_sh, argv_fr, argv_bo, argv_sc, argv_fn, fNilD, fConsD, frz_sh, frz_fr, rd_sh, rd_fr, rdS_sh, rdS_fr, rdS_sc, rdS_bo, rdSs_nil', rdSs_sh, rdSs_sc, Option.map_some, rd2_sh, rdI_sh, fLst, fTup, lstV, tupV, fCB, rdC, fIsi, isiV, fCall, dIf, fSeq, fRet, fRetN, fNx, fCt, fBk, leave, fTru, tru, fBool, boolV, tAnd', tOr', tNot', opMul_l, opMul_r, opFdiv_p, opMod_p, Int.reduceLT, Int.reduceNeg, Int.reduceAdd, Int.reduceSub, Int.reduceMul, vAnd_eq, vOr_eq, andV_bool, orV_bool, bind_ite, seq_ite, turn_ite, rtOf_ite, rtOf_rt, rtOf_nx, opEq_int, opNe_int, opEq_str, opNe_str, opLt_int, opGt_int, opLe_int, opGe_int, isi_int_none, isi_int_bool, isi_int_int, isi_int_str, isi_int_list, isi_int_tuple, isi_bool_none, isi_bool_bool, isi_bool_int, isi_bool_str, isi_bool_list, isi_bool_tuple, isi_str_none, isi_str_bool, isi_str_int, isi_str_str, isi_str_list, isi_str_tuple, isi_list_none, isi_list_bool, isi_list_int, isi_list_str, isi_list_list, isi_list_tuple, isi_tuple_none, isi_tuple_bool, isi_tuple_int, isi_tuple_str, isi_tuple_list, isi_tuple_tuple, vNot, vIf, fIsN, isNV, isN, fChain_eq, truD, decide_true, decide_false, Bool.not_true, Bool.not_false, decide_eq_true_eq, Int.cast_ofNat_Int, Int.reduceLE, Int.reduceEq, Int.reduceToNat, not_true_eq_false, not_false_eq_true, Bool.true_eq_false, dSet, dSto, stS, dSetM, dMv, dAsg, gN, gT, gCons, gNil, gSubL, dPar, stosP, stoP, fConsP, dExpr, fYes, fIr, dFor, dIt, fItems, itemsOf, fApp, appV, fMt_eq, fMt0_eq, mtS_str, mtS0_str, opS_some, tyName, dSub, subV, isOw, fMut, fMut0, mutV, fExt, extV, Out.bind_ok, Out.bind_exc, Out.bind_stuck, Out.seq_nx, Out.seq_rt, Out.seq_bk, Out.seq_ct, Out.seq_exc, Out.seq_stuck, Out.back_nx, Out.back_rt, Out.back_exc, Out.turn_nx, Out.turn_rt, Out.turn_ct, Out.turn_bk, List.getElem?_cons_zero, List.getElem?_cons_succ, List.set_cons_zero, List.set_cons_succ, List.cons_append, List.nil_append, List.map_cons, List.map_nil, List.replicate, List.length_cons, List.length_nil, if_true, if_false, Bool.false_eq_true, opLen, opAdd, opSub, opIx, Sw_len, Sw_add, Sw_cut, Sw_cps, Its.grab, Its.free, Nat.zero_add, Nat.sub_zero, Nat.reduceAdd, Nat.reduceSub, rdI_bo0, ar_bo, atI_zero, atI_one, hx, divmod_eq hn h2, ix20, rtP_rt, e]
  · have hn0 : (0 : Int) < n := by omega
    have q1 := Int.emod_nonneg ((y * 40692 + 4909) % 2147483587 * ((y * 40692 + 4909) % 2147483587) % 2147483563 / 19) (show (n : Int) ≠ 0 by omega)
    have q2 := Int.emod_lt_of_pos ((y * 40692 + 4909) % 2147483587 * ((y * 40692 + 4909) % 2147483587) % 2147483563 / 19) hn0
    refine ⟨((y * 40692 + 4909) % 2147483587 * ((y * 40692 + 4909) % 2147483587) % 2147483563 / 19 % n).toNat, [.int x, .int ((y * 40692 + 4909) % 2147483587)], by omega, ⟨_, _, rfl, by omega, by omega⟩, ?_⟩
    refine gvp_rt ?_
    unfold b__law_draw natD
    generalize hz : (y * 40692 + 4909) % 2147483587 = z at q1 q2 ⊢
    have hz1 : 0 ≤ z ∧ z < 4294967296 := by omega
    have e : ((z * z % 2147483563 / 19 % (n : Int)).toNat : Int) = z * z % 2147483563 / 19 % n := by omega
    have hn' : (0 : Int) < n := by omega
    have m1 : ∀ ρ, opMul (.int y) (.int 40692) ρ = .ok (.sh (.int (y * 40692))) ρ := fun ρ => opMul_r (by decide) (by decide)
    have m2 : ∀ ρ, opMul (.int z) (.int z) ρ = .ok (.sh (.int (z * z))) ρ := fun ρ => opMul_l (by omega) (by omega)
    have m3 : ∀ i ρ, opMod (.int i) (.int 2147483587) ρ = .ok (.sh (.int (i % 2147483587))) ρ := fun i ρ => opMod_p (by decide)
    have m4 : ∀ i ρ, opMod (.int i) (.int 2147483563) ρ = .ok (.sh (.int (i % 2147483563))) ρ := fun i ρ => opMod_p (by decide)
    have m5 : ∀ i ρ, opFdiv (.int i) (.int 19) ρ = .ok (.sh (.int (i / 19))) ρ := fun i ρ => opFdiv_p (by decide) (by decide)
    have m6 : ∀ i ρ, opMod (.int i) (.int n) ρ = .ok (.sh (.int (i % n))) ρ := fun i ρ => opMod_p hn'
    simp only [fVar, fC, fFn, fBin, fIx, fSl, rdSl, opSl, fPart, partV, fNo, fNil, fCons, dArg, argv_sh, argv_fr, argv_bo, argv_sc, argv_fn, fNilD, fConsD, frz_sh, frz_fr, rd_sh, rd_fr, rdS_sh, rdS_fr, rdS_sc, rdS_bo, rdSs_nil', rdSs_sh, rdSs_sc, Option.map_some, rd2_sh, rdI_sh, fLst, fTup, lstV, tupV, fCB, rdC, fIsi, isiV, fCall, dIf, fSeq, fRet, fRetN, fNx, fCt, fBk, leave, fTru, tru, fBool, boolV, tAnd', tOr', tNot', opMul_l, opMul_r, opFdiv_p, opMod_p, Int.reduceLT, Int.reduceNeg, Int.reduceAdd, Int.reduceSub, Int.reduceMul, vAnd_eq, vOr_eq, andV_bool, orV_bool, bind_ite, seq_ite, turn_ite, rtOf_ite, rtOf_rt, rtOf_nx, opEq_int, opNe_int, opEq_str, opNe_str, opLt_int, opGt_int, opLe_int, opGe_int, isi_int_none, isi_int_bool, isi_int_int, isi_int_str, isi_int_list, isi_int_tuple, isi_bool_none, isi_bool_bool, isi_bool_int, isi_bool_str, isi_bool_list, isi_bool_tuple, isi_str_none, isi_str_bool, isi_str_int, isi_str_str, isi_str_list, isi_str_tuple, isi_list_none, isi_list_bool, isi_list_int, isi_list_str, isi_list_list, isi_list_tuple, isi_tuple_none, isi_tuple_bool, isi_tuple_int, isi_tuple_str, isi_tuple_list, isi_tuple_tuple, vNot, vIf, fIsN, isNV, isN, fChain_eq, truD, decide_true, decide_false, Bool.not_true, Bool.not_false, decide_eq_true_eq, Int.cast_ofNat_Int, Int.reduceLE, Int.reduceEq, Int.reduceToNat, not_true_eq_false, not_false_eq_true, Bool.true_eq_false, dSet, dSto, stS, dSetM, dMv, dAsg, gN, gT, gCons, gNil, gSubL, dPar, stosP, stoP, fConsP, dExpr, fYes, fIr, dFor, dIt, fItems, itemsOf, fApp, appV, fMt_eq, fMt0_eq, mtS_str, mtS0_str, opS_some, tyName, dSub, subV, isOw, fMut, fMut0, mutV, fExt, extV, Out.bind_ok, Out.bind_exc, Out.bind_stuck, Out.seq_nx, Out.seq_rt, Out.seq_bk, Out.seq_ct, Out.seq_exc, Out.seq_stuck, Out.back_nx, Out.back_rt, Out.back_exc, Out.turn_nx, Out.turn_rt, Out.turn_ct, Out.turn_bk, List.getElem?_cons_zero, List.getElem?_cons_succ, List.set_cons_zero, List.set_cons_succ, List.cons_append, List.nil_append, List.map_cons, List.map_nil, List.replicate, List.length_cons, List.length_nil, if_true, if_false, Bool.false_eq_true, opLen, opAdd, opSub, opIx, Sw_len, Sw_add, Sw_cut, Sw_cps, Its.grab, Its.free, Nat.zero_add, Nat.sub_zero, Nat.reduceAdd, Nat.reduceSub, rdI_bo0, ar_bo, atI_zero, atI_one, hx, m1, m2, m3, m4, m5, m6, opInt, hz, ix21, rtP_rt, e]
theorem law_pick {ds : List D} (h : PotL ds) {xs : List D} (hx : 0 < xs.length) (h2 : xs.length < 1000000000) : ∃ (d : D) (ds' : List D), d ∈ xs ∧ PotL ds' ∧ GvP g__law_pick ds [.list xs] (.sh d) ds' := by
  obtain ⟨d, ds', h3, h4, h5⟩ := law_draw h hx h2
  refine ⟨xs[d], ds', List.getElem_mem _, h4, ?_⟩
  refine gvp_rt ?_
  unfold b__law_pick
  have hc : dCallN 2 g__law_draw [.bo 0, .sh (natD xs.length)] [some (SV.ow true ds), some (.sh (.list xs))] = .ok (.sh (natD d)) [some (SV.ow true ds'), some (.sh (.list xs))] := callP1 h5 rfl
  unfold natD at hc
  simp only [fVar, fC, fFn, fBin, fIx, fSl, rdSl, opSl, fPart, partV, fNo, fNil, fCons, dArg, argv_sh, argv_fr, argv_bo, argv_sc, argv_fn, fNilD, fConsD, frz_sh, frz_fr, rd_sh, rd_fr, rdS_sh, rdS_fr, rdS_sc, rdS_bo, rdSs_nil', rdSs_sh, rdSs_sc, Option.map_some, rd2_sh, rdI_sh, fLst, fTup, lstV, tupV, fCB, rdC, fIsi, isiV, fCall, dIf, fSeq, fRet, fRetN, fNx, fCt, fBk, leave, fTru, tru, fBool, boolV, tAnd', tOr', tNot', opMul_l, opMul_r, opFdiv_p, opMod_p, Int.reduceLT, Int.reduceNeg, Int.reduceAdd, Int.reduceSub, Int.reduceMul, vAnd_eq, vOr_eq, andV_bool, orV_bool, bind_ite, seq_ite, turn_ite, rtOf_ite, rtOf_rt, rtOf_nx, opEq_int, opNe_int, opEq_str, opNe_str, opLt_int, opGt_int, opLe_int, opGe_int, isi_int_none, isi_int_bool, isi_int_int, isi_int_str, isi_int_list, isi_int_tuple, isi_bool_none, isi_bool_bool, isi_bool_int, isi_bool_str, isi_bool_list, isi_bool_tuple, isi_str_none, isi_str_bool, isi_str_int, isi_str_str, isi_str_list, isi_str_tuple, isi_list_none, isi_list_bool, isi_list_int, isi_list_str, isi_list_list, isi_list_tuple, isi_tuple_none, isi_tuple_bool, isi_tuple_int, isi_tuple_str, isi_tuple_list, isi_tuple_tuple, vNot, vIf, fIsN, isNV, isN, fChain_eq, truD, decide_true, decide_false, Bool.not_true, Bool.not_false, decide_eq_true_eq, Int.cast_ofNat_Int, Int.reduceLE, Int.reduceEq, Int.reduceToNat, not_true_eq_false, not_false_eq_true, Bool.true_eq_false, dSet, dSto, stS, dSetM, dMv, dAsg, gN, gT, gCons, gNil, gSubL, dPar, stosP, stoP, fConsP, dExpr, fYes, fIr, dFor, dIt, fItems, itemsOf, fApp, appV, fMt_eq, fMt0_eq, mtS_str, mtS0_str, opS_some, tyName, dSub, subV, isOw, fMut, fMut0, mutV, fExt, extV, Out.bind_ok, Out.bind_exc, Out.bind_stuck, Out.seq_nx, Out.seq_rt, Out.seq_bk, Out.seq_ct, Out.seq_exc, Out.seq_stuck, Out.back_nx, Out.back_rt, Out.back_exc, Out.turn_nx, Out.turn_rt, Out.turn_ct, Out.turn_bk, List.getElem?_cons_zero, List.getElem?_cons_succ, List.set_cons_zero, List.set_cons_succ, List.cons_append, List.nil_append, List.map_cons, List.map_nil, List.replicate, List.length_cons, List.length_nil, if_true, if_false, Bool.false_eq_true, opLen, opAdd, opSub, opIx, Sw_len, Sw_add, Sw_cut, Sw_cps, Its.grab, Its.free, Nat.zero_add, Nat.sub_zero, Nat.reduceAdd, Nat.reduceSub, ar_bo, hc, atI_n h3, rtP_rt]
theorem rdI_sc (ns : List Int) (d : D) (ρ : DL.Env) : rdI (.sc ns) (.sh d) ρ = opIx (.list (ns.map .int)) d ρ := rfl
theorem len_sc (ns : List Int) (ρ : DL.Env) : rdSs [.sc ns] ρ = some [.list (ns.map .int)] := rfl
theorem law_pot (ns : List Int) (k : Nat) (hk : k < 10) : ∃ ds, PotL ds ∧ GvS g__law_pot [.sc ns, .sh (natD k)] (.fr ds) := by
  have key : ∀ cell : Int, ∃ ds, PotL ds ∧ ∀ ρ : DL.Env, rtOf ((fSeq (dSet 3 (fBin opAdd (fBin opMod (fCB opInt (fCons (fBin opAdd (fBin opAdd (fBin opMul (fBin opMod (fCB opInt (fCons (fVar 2) (fNil))) (fC (.int 2147483549))) (fC (.int 40692))) (fBin opMul (fC (.int 4909)) (fVar 1))) (fC (.int 137))) (fNil))) (fC (.int 2147483563))) (fC (.int 1)))) (fSeq (fRet (fLst (fConsD (fCB opMax2 (fCons (fC (.int 0)) (fCons (fBin opSub (fVar 2) (fBin opPow (fC (.int 10)) (fC (.int 18)))) (fNil)))) (fConsD (fVar 3) (fNilD))))) (fNx))) [some (.sc ns), some (.sh (natD k)), some (.sh (.int cell)), none]) = some (.fr ds) := by
    intro cell
    refine ⟨[.int (if cell - 10 ^ 18 > 0 then cell - 10 ^ 18 else 0), .int ((cell % 2147483549 * 40692 + 4909 * k + 137) % 2147483563 + 1)], ⟨_, _, rfl, by omega, by omega⟩, fun ρ => ?_⟩
    have m1 : ∀ i ρ, opMul (.int i) (.int 40692) ρ = .ok (.sh (.int (i * 40692))) ρ := fun i ρ => opMul_r (by decide) (by decide)
    have m2 : ∀ i ρ, opMul (.int 4909) (.int i) ρ = .ok (.sh (.int (4909 * i))) ρ := fun i ρ => opMul_l (by decide) (by decide)
    have m3 : ∀ i ρ, opMod (.int i) (.int 2147483549) ρ = .ok (.sh (.int (i % 2147483549))) ρ := fun i ρ => opMod_p (by decide)
    have m4 : ∀ i ρ, opMod (.int i) (.int 2147483563) ρ = .ok (.sh (.int (i % 2147483563))) ρ := fun i ρ => opMod_p (by decide)
    have m5 : ∀ ρ, opPow (.int 10) (.int 18) ρ = .ok (.sh (.int (10 ^ 18))) ρ := fun ρ => by
      simp only [opPow]
      rw [if_pos (by decide)]
      rfl
    have hz : 2 ≤ sizeLine := by have := sizeL; omega
    unfold natD
    simp only [fVar, fC, fFn, fBin, fIx, fSl, rdSl, opSl, fPart, partV, fNo, fNil, fCons, dArg, argv_sh, argv_fr, argv_bo, argv_sc, argv_fn, fNilD, fConsD, frz_sh, frz_fr, rd_sh, rd_fr, rdS_sh, rdS_fr, rdS_sc, rdS_bo, rdSs_nil', rdSs_sh, rdSs_sc, Option.map_some, rd2_sh, rdI_sh, fLst, fTup, lstV, tupV, fCB, rdC, fIsi, isiV, fCall, dIf, fSeq, fRet, fRetN, fNx, fCt, fBk, leave, fTru, tru, fBool, boolV, tAnd', tOr', tNot', opMul_l, opMul_r, opFdiv_p, opMod_p, Int.reduceLT, Int.reduceNeg, Int.reduceAdd, Int.reduceSub, Int.reduceMul, vAnd_eq, vOr_eq, andV_bool, orV_bool, bind_ite, seq_ite, turn_ite, rtOf_ite, rtOf_rt, rtOf_nx, opEq_int, opNe_int, opEq_str, opNe_str, opLt_int, opGt_int, opLe_int, opGe_int, isi_int_none, isi_int_bool, isi_int_int, isi_int_str, isi_int_list, isi_int_tuple, isi_bool_none, isi_bool_bool, isi_bool_int, isi_bool_str, isi_bool_list, isi_bool_tuple, isi_str_none, isi_str_bool, isi_str_int, isi_str_str, isi_str_list, isi_str_tuple, isi_list_none, isi_list_bool, isi_list_int, isi_list_str, isi_list_list, isi_list_tuple, isi_tuple_none, isi_tuple_bool, isi_tuple_int, isi_tuple_str, isi_tuple_list, isi_tuple_tuple, vNot, vIf, fIsN, isNV, isN, fChain_eq, truD, decide_true, decide_false, Bool.not_true, Bool.not_false, decide_eq_true_eq, Int.cast_ofNat_Int, Int.reduceLE, Int.reduceEq, Int.reduceToNat, not_true_eq_false, not_false_eq_true, Bool.true_eq_false, dSet, dSto, stS, dSetM, dMv, dAsg, gN, gT, gCons, gNil, gSubL, dPar, stosP, stoP, fConsP, dExpr, fYes, fIr, dFor, dIt, fItems, itemsOf, fApp, appV, fMt_eq, fMt0_eq, mtS_str, mtS0_str, opS_some, tyName, dSub, subV, isOw, fMut, fMut0, mutV, fExt, extV, Out.bind_ok, Out.bind_exc, Out.bind_stuck, Out.seq_nx, Out.seq_rt, Out.seq_bk, Out.seq_ct, Out.seq_exc, Out.seq_stuck, Out.back_nx, Out.back_rt, Out.back_exc, Out.turn_nx, Out.turn_rt, Out.turn_ct, Out.turn_bk, List.getElem?_cons_zero, List.getElem?_cons_succ, List.set_cons_zero, List.set_cons_succ, List.cons_append, List.nil_append, List.map_cons, List.map_nil, List.replicate, List.length_cons, List.length_nil, if_true, if_false, Bool.false_eq_true, opLen, opAdd, opSub, opIx, Sw_len, Sw_add, Sw_cut, Sw_cps, Its.grab, Its.free, Nat.zero_add, Nat.sub_zero, Nat.reduceAdd, Nat.reduceSub, opInt, m1, m2, m3, m4, m5, opMax2, hz]
  by_cases h : k < ns.length
  · obtain ⟨ds, h1, h2⟩ := key (ns[k].natAbs : Int)
    refine ⟨ds, h1, ?_⟩
    refine gvs_rt ?_
    have e : L2.atI (ns.map PyData.int) (k : Int) = some (.int ns[k]) := by
      have := atI_n (xs := ns.map PyData.int) (n := k) (by simpa using h)
      rw [this]; simp
    have hE : dSet 2 (vIf (fBool (fBin opLt (fVar 1) (fCB opLen (fCons (fVar 0) (fNil))))) (fCB opAbs (fCons (fIx (fVar 0) (fVar 1)) (fNil))) (fBin opAdd (fBin opMul (fC (.int 887)) (fVar 1)) (fC (.int 219)))) [some (.sc ns), some (.sh (natD k)), none, none] = .ok .nx [some (.sc ns), some (.sh (natD k)), some (.sh (.int (ns[k].natAbs : Int))), none] := by
      have h' : (k : Int) < ns.length := by omega
      unfold natD
      simp only [fVar, fC, fFn, fBin, fIx, fSl, rdSl, opSl, fPart, partV, fNo, fNil, fCons, dArg, argv_sh, argv_fr, argv_bo, argv_sc, argv_fn, fNilD, fConsD, frz_sh, frz_fr, rd_sh, rd_fr, rdS_sh, rdS_fr, rdS_sc, rdS_bo, rdSs_nil', rdSs_sh, rdSs_sc, Option.map_some, rd2_sh, rdI_sh, fLst, fTup, lstV, tupV, fCB, rdC, fIsi, isiV, fCall, dIf, fSeq, fRet, fRetN, fNx, fCt, fBk, leave, fTru, tru, fBool, boolV, tAnd', tOr', tNot', opMul_l, opMul_r, opFdiv_p, opMod_p, Int.reduceLT, Int.reduceNeg, Int.reduceAdd, Int.reduceSub, Int.reduceMul, vAnd_eq, vOr_eq, andV_bool, orV_bool, bind_ite, seq_ite, turn_ite, rtOf_ite, rtOf_rt, rtOf_nx, opEq_int, opNe_int, opEq_str, opNe_str, opLt_int, opGt_int, opLe_int, opGe_int, isi_int_none, isi_int_bool, isi_int_int, isi_int_str, isi_int_list, isi_int_tuple, isi_bool_none, isi_bool_bool, isi_bool_int, isi_bool_str, isi_bool_list, isi_bool_tuple, isi_str_none, isi_str_bool, isi_str_int, isi_str_str, isi_str_list, isi_str_tuple, isi_list_none, isi_list_bool, isi_list_int, isi_list_str, isi_list_list, isi_list_tuple, isi_tuple_none, isi_tuple_bool, isi_tuple_int, isi_tuple_str, isi_tuple_list, isi_tuple_tuple, vNot, vIf, fIsN, isNV, isN, fChain_eq, truD, decide_true, decide_false, Bool.not_true, Bool.not_false, decide_eq_true_eq, Int.cast_ofNat_Int, Int.reduceLE, Int.reduceEq, Int.reduceToNat, not_true_eq_false, not_false_eq_true, Bool.true_eq_false, dSet, dSto, stS, dSetM, dMv, dAsg, gN, gT, gCons, gNil, gSubL, dPar, stosP, stoP, fConsP, dExpr, fYes, fIr, dFor, dIt, fItems, itemsOf, fApp, appV, fMt_eq, fMt0_eq, mtS_str, mtS0_str, opS_some, tyName, dSub, subV, isOw, fMut, fMut0, mutV, fExt, extV, Out.bind_ok, Out.bind_exc, Out.bind_stuck, Out.seq_nx, Out.seq_rt, Out.seq_bk, Out.seq_ct, Out.seq_exc, Out.seq_stuck, Out.back_nx, Out.back_rt, Out.back_exc, Out.turn_nx, Out.turn_rt, Out.turn_ct, Out.turn_bk, List.getElem?_cons_zero, List.getElem?_cons_succ, List.set_cons_zero, List.set_cons_succ, List.cons_append, List.nil_append, List.map_cons, List.map_nil, List.replicate, List.length_cons, List.length_nil, if_true, if_false, Bool.false_eq_true, opLen, opAdd, opSub, opIx, Sw_len, Sw_add, Sw_cut, Sw_cps, Its.grab, Its.free, Nat.zero_add, Nat.sub_zero, Nat.reduceAdd, Nat.reduceSub, rdI_sc, len_sc, h', e, opAbs, List.length_map]
      have ea : (if ns[k] < 0 then -ns[k] else ns[k]) = (ns[k].natAbs : Int) := by split <;> omega
      rw [ea]
    unfold b__law_pot
    refine (congrArg (fun o => rtOf (Out.seq o _)) hE).trans ?_
    rw [Out.seq_nx]
    exact h2 []
  · obtain ⟨ds, h1, h2⟩ := key (887 * k + 219)
    refine ⟨ds, h1, ?_⟩
    refine gvs_rt ?_
    have hE : dSet 2 (vIf (fBool (fBin opLt (fVar 1) (fCB opLen (fCons (fVar 0) (fNil))))) (fCB opAbs (fCons (fIx (fVar 0) (fVar 1)) (fNil))) (fBin opAdd (fBin opMul (fC (.int 887)) (fVar 1)) (fC (.int 219)))) [some (.sc ns), some (.sh (natD k)), none, none] = .ok .nx [some (.sc ns), some (.sh (natD k)), some (.sh (.int (887 * (k : Int) + 219))), none] := by
      have h' : ¬ (k : Int) < ns.length := by omega
      have m2 : ∀ i ρ, opMul (.int 887) (.int i) ρ = .ok (.sh (.int (887 * i))) ρ := fun i ρ => opMul_l (by decide) (by decide)
      unfold natD
      simp only [fVar, fC, fFn, fBin, fIx, fSl, rdSl, opSl, fPart, partV, fNo, fNil, fCons, dArg, argv_sh, argv_fr, argv_bo, argv_sc, argv_fn, fNilD, fConsD, frz_sh, frz_fr, rd_sh, rd_fr, rdS_sh, rdS_fr, rdS_sc, rdS_bo, rdSs_nil', rdSs_sh, rdSs_sc, Option.map_some, rd2_sh, rdI_sh, fLst, fTup, lstV, tupV, fCB, rdC, fIsi, isiV, fCall, dIf, fSeq, fRet, fRetN, fNx, fCt, fBk, leave, fTru, tru, fBool, boolV, tAnd', tOr', tNot', opMul_l, opMul_r, opFdiv_p, opMod_p, Int.reduceLT, Int.reduceNeg, Int.reduceAdd, Int.reduceSub, Int.reduceMul, vAnd_eq, vOr_eq, andV_bool, orV_bool, bind_ite, seq_ite, turn_ite, rtOf_ite, rtOf_rt, rtOf_nx, opEq_int, opNe_int, opEq_str, opNe_str, opLt_int, opGt_int, opLe_int, opGe_int, isi_int_none, isi_int_bool, isi_int_int, isi_int_str, isi_int_list, isi_int_tuple, isi_bool_none, isi_bool_bool, isi_bool_int, isi_bool_str, isi_bool_list, isi_bool_tuple, isi_str_none, isi_str_bool, isi_str_int, isi_str_str, isi_str_list, isi_str_tuple, isi_list_none, isi_list_bool, isi_list_int, isi_list_str, isi_list_list, isi_list_tuple, isi_tuple_none, isi_tuple_bool, isi_tuple_int, isi_tuple_str, isi_tuple_list, isi_tuple_tuple, vNot, vIf, fIsN, isNV, isN, fChain_eq, truD, decide_true, decide_false, Bool.not_true, Bool.not_false, decide_eq_true_eq, Int.cast_ofNat_Int, Int.reduceLE, Int.reduceEq, Int.reduceToNat, not_true_eq_false, not_false_eq_true, Bool.true_eq_false, dSet, dSto, stS, dSetM, dMv, dAsg, gN, gT, gCons, gNil, gSubL, dPar, stosP, stoP, fConsP, dExpr, fYes, fIr, dFor, dIt, fItems, itemsOf, fApp, appV, fMt_eq, fMt0_eq, mtS_str, mtS0_str, opS_some, tyName, dSub, subV, isOw, fMut, fMut0, mutV, fExt, extV, Out.bind_ok, Out.bind_exc, Out.bind_stuck, Out.seq_nx, Out.seq_rt, Out.seq_bk, Out.seq_ct, Out.seq_exc, Out.seq_stuck, Out.back_nx, Out.back_rt, Out.back_exc, Out.turn_nx, Out.turn_rt, Out.turn_ct, Out.turn_bk, List.getElem?_cons_zero, List.getElem?_cons_succ, List.set_cons_zero, List.set_cons_succ, List.cons_append, List.nil_append, List.map_cons, List.map_nil, List.replicate, List.length_cons, List.length_nil, if_true, if_false, Bool.false_eq_true, opLen, opAdd, opSub, opIx, Sw_len, Sw_add, Sw_cut, Sw_cps, Its.grab, Its.free, Nat.zero_add, Nat.sub_zero, Nat.reduceAdd, Nat.reduceSub, rdI_sc, len_sc, h', m2, List.length_map]
    unfold b__law_pot
    refine (congrArg (fun o => rtOf (Out.seq o _)) hE).trans ?_
    rw [Out.seq_nx]
    exact h2 []
end K87
namespace K87
open PySem DL
theorem cut_ab : cutL [97, 98, 99] none (some (2 : Int)) = [97, 98] := by decide +kernel
theorem paired_words {ys : List D} {P : Nat → Prop} : ∀ {ds : List D} {ys : List D}, PySem.Paired (fun (_ y : D) => ∃ c : Nat, P c ∧ y = dw [c]) ds ys → ∃ w : List Nat, w.length = ds.length ∧ (∀ c ∈ w, P c) ∧ ys = (w.map fun c => [c]).map dw
  | _, _, .nil => ⟨[], rfl, by simp, rfl⟩
  | _, _, .cons ⟨c, hc, e⟩ t => by
    obtain ⟨w, h1, h2, h3⟩ := paired_words (ys := []) t
    subst e; subst h3
    refine ⟨c :: w, by simp [h1], ?_, rfl⟩
    intro x hx
    rcases List.mem_cons.mp hx with rfl | hx
    · exact hc
    · exact h2 x hx
theorem flat_one : ∀ w : List Nat, (w.map fun c => [c]).flatten = w
  | [] => rfl
  | c :: w => by simp only [List.map_cons, List.flatten_cons, flat_one w, List.cons_append, List.nil_append]
theorem law_word {ds : List D} (h : PotL ds) {m : Nat} (hm : 1 ≤ m) (hm2 : m ≤ 10) : ∃ (w : List Nat) (ds' : List D), AB w ∧ 1 ≤ w.length ∧ w.length ≤ m ∧ PotL ds' ∧ GvP g__law_word ds [.int 2, .int 1, natD m] (.sh (dw w)) ds' := by
  obtain ⟨d, ds1, h1, h2, h3⟩ := law_draw h (n := m) (by omega) (by omega)
  let R : DL.Env → Prop := fun e => ∃ es, PotL es ∧ e = [some (.ow true es), some (.sh (.int 2)), some (.sh (.int 1)), some (.sh (natD m)), none]
  have hi : (fIr fRng1 (fCons (fBin opAdd (fVar 2) (fCall 2 g__law_draw (fCons (fVar 0) (fCons (fBin opAdd (fBin opSub (fVar 3) (fVar 2)) (fC (.int 1))) (fNil))))) (fNil))) [some (.ow true ds), some (.sh (.int 2)), some (.sh (.int 1)), some (.sh (natD m)), none] = .ok ⟨rng 0 (1 + d), none⟩ [some (.ow true ds1), some (.sh (.int 2)), some (.sh (.int 1)), some (.sh (natD m)), none] := by
    have hc : dCallN 2 g__law_draw [.bo 0, .sh (natD m)] [some (SV.ow true ds), some (.sh (.int 2)), some (.sh (.int 1)), some (.sh (natD m)), none] = .ok (.sh (natD d)) [some (SV.ow true ds1), some (.sh (.int 2)), some (.sh (.int 1)), some (.sh (natD m)), none] := callP1 h3 rfl
    have e : (m : Int) - 1 + 1 = m := by omega
    have e2 : (1 : Int) + d = ((1 + d : Nat) : Int) := by omega
    unfold natD at hc ⊢
    simp only [fVar, fC, fFn, fBin, fIx, fSl, rdSl, opSl, fPart, partV, fNo, fNil, fCons, dArg, argv_sh, argv_fr, argv_bo, argv_sc, argv_fn, fNilD, fConsD, frz_sh, frz_fr, rd_sh, rd_fr, rdS_sh, rdS_fr, rdS_sc, rdS_bo, rdSs_nil', rdSs_sh, rdSs_sc, Option.map_some, rd2_sh, rdI_sh, fLst, fTup, lstV, tupV, fCB, rdC, fIsi, isiV, fCall, dIf, fSeq, fRet, fRetN, fNx, fCt, fBk, leave, fTru, tru, fBool, boolV, tAnd', tOr', tNot', opMul_l, opMul_r, opFdiv_p, opMod_p, Int.reduceLT, Int.reduceNeg, Int.reduceAdd, Int.reduceSub, Int.reduceMul, vAnd_eq, vOr_eq, andV_bool, orV_bool, bind_ite, seq_ite, turn_ite, rtOf_ite, rtOf_rt, rtOf_nx, opEq_int, opNe_int, opEq_str, opNe_str, opLt_int, opGt_int, opLe_int, opGe_int, isi_int_none, isi_int_bool, isi_int_int, isi_int_str, isi_int_list, isi_int_tuple, isi_bool_none, isi_bool_bool, isi_bool_int, isi_bool_str, isi_bool_list, isi_bool_tuple, isi_str_none, isi_str_bool, isi_str_int, isi_str_str, isi_str_list, isi_str_tuple, isi_list_none, isi_list_bool, isi_list_int, isi_list_str, isi_list_list, isi_list_tuple, isi_tuple_none, isi_tuple_bool, isi_tuple_int, isi_tuple_str, isi_tuple_list, isi_tuple_tuple, vNot, vIf, fIsN, isNV, isN, fChain_eq, truD, decide_true, decide_false, Bool.not_true, Bool.not_false, decide_eq_true_eq, Int.cast_ofNat_Int, Int.reduceLE, Int.reduceEq, Int.reduceToNat, not_true_eq_false, not_false_eq_true, Bool.true_eq_false, dSet, dSto, stS, dSetM, dMv, dAsg, gN, gT, gCons, gNil, gSubL, dPar, stosP, stoP, fConsP, dExpr, fYes, fIr, dFor, dIt, fItems, itemsOf, fApp, appV, fMt_eq, fMt0_eq, mtS_str, mtS0_str, opS_some, tyName, dSub, subV, isOw, fMut, fMut0, mutV, fExt, extV, Out.bind_ok, Out.bind_exc, Out.bind_stuck, Out.seq_nx, Out.seq_rt, Out.seq_bk, Out.seq_ct, Out.seq_exc, Out.seq_stuck, Out.back_nx, Out.back_rt, Out.back_exc, Out.turn_nx, Out.turn_rt, Out.turn_ct, Out.turn_bk, List.getElem?_cons_zero, List.getElem?_cons_succ, List.set_cons_zero, List.set_cons_succ, List.cons_append, List.nil_append, List.map_cons, List.map_nil, List.replicate, List.length_cons, List.length_nil, if_true, if_false, Bool.false_eq_true, opLen, opAdd, opSub, opIx, Sw_len, Sw_add, Sw_cut, Sw_cps, Its.grab, Its.free, Nat.zero_add, Nat.sub_zero, Nat.reduceAdd, Nat.reduceSub, ar_bo, e, hc, e2, fRng1_nat (n := 1 + d) (by omega)]
  have hl : (rng 0 (1 + d)).length = 1 + d := by unfold rng; simp
  obtain ⟨ys, ρf, q1, q2, q3⟩ := fLc_draw (g := gN 4) (fe := fCall 2 g__law_pick (fCons (fVar 0) (fCons (fCB opList (fCons (fSl (fC (.str "abc")) (fNo) (fPart (fVar 1))) (fNil))) (fNil)))) (vs := [4]) R (fun _ y => ∃ c : Nat, (c = 97 ∨ c = 98) ∧ y = dw [c]) hi rfl (by have := sizeL; omega) ⟨ds1, h2, rfl⟩ (by
    rintro x hx e ⟨es, he, rfl⟩
    obtain ⟨c, es', h4, h5, h6⟩ := law_pick he (xs := [dw [97], dw [98]]) (by simp) (by simp)
    refine ⟨[some (.ow true es), some (.sh (.int 2)), some (.sh (.int 1)), some (.sh (natD m)), some (.sh x)], c, [some (.ow true es'), some (.sh (.int 2)), some (.sh (.int 1)), some (.sh (natD m)), some (.sh x)], rfl, ?_, ?_, ⟨es', h5, rfl⟩⟩
    · have hc : dCallN 2 g__law_pick [.bo 0, .sh (.list [dw [97], dw [98]])] [some (SV.ow true es), some (.sh (.int 2)), some (.sh (.int 1)), some (.sh (natD m)), some (.sh x)] = .ok (.sh c) [some (SV.ow true es'), some (.sh (.int 2)), some (.sh (.int 1)), some (.sh (natD m)), some (.sh x)] := callP1 h6 rfl
      have ho : ∀ ρ, opList [dw [97, 98]] ρ = .ok (.fr [dw [97], dw [98]]) ρ := fun _ => rfl
      simp only [fVar, fC, fFn, fBin, fIx, fSl, rdSl, opSl, fPart, partV, fNo, fNil, fCons, dArg, argv_sh, argv_fr, argv_bo, argv_sc, argv_fn, fNilD, fConsD, frz_sh, frz_fr, rd_sh, rd_fr, rdS_sh, rdS_fr, rdS_sc, rdS_bo, rdSs_nil', rdSs_sh, rdSs_sc, Option.map_some, rd2_sh, rdI_sh, fLst, fTup, lstV, tupV, fCB, rdC, fIsi, isiV, fCall, dIf, fSeq, fRet, fRetN, fNx, fCt, fBk, leave, fTru, tru, fBool, boolV, tAnd', tOr', tNot', opMul_l, opMul_r, opFdiv_p, opMod_p, Int.reduceLT, Int.reduceNeg, Int.reduceAdd, Int.reduceSub, Int.reduceMul, vAnd_eq, vOr_eq, andV_bool, orV_bool, bind_ite, seq_ite, turn_ite, rtOf_ite, rtOf_rt, rtOf_nx, opEq_int, opNe_int, opEq_str, opNe_str, opLt_int, opGt_int, opLe_int, opGe_int, isi_int_none, isi_int_bool, isi_int_int, isi_int_str, isi_int_list, isi_int_tuple, isi_bool_none, isi_bool_bool, isi_bool_int, isi_bool_str, isi_bool_list, isi_bool_tuple, isi_str_none, isi_str_bool, isi_str_int, isi_str_str, isi_str_list, isi_str_tuple, isi_list_none, isi_list_bool, isi_list_int, isi_list_str, isi_list_list, isi_list_tuple, isi_tuple_none, isi_tuple_bool, isi_tuple_int, isi_tuple_str, isi_tuple_list, isi_tuple_tuple, vNot, vIf, fIsN, isNV, isN, fChain_eq, truD, decide_true, decide_false, Bool.not_true, Bool.not_false, decide_eq_true_eq, Int.cast_ofNat_Int, Int.reduceLE, Int.reduceEq, Int.reduceToNat, not_true_eq_false, not_false_eq_true, Bool.true_eq_false, dSet, dSto, stS, dSetM, dMv, dAsg, gN, gT, gCons, gNil, gSubL, dPar, stosP, stoP, fConsP, dExpr, fYes, fIr, dFor, dIt, fItems, itemsOf, fApp, appV, fMt_eq, fMt0_eq, mtS_str, mtS0_str, opS_some, tyName, dSub, subV, isOw, fMut, fMut0, mutV, fExt, extV, Out.bind_ok, Out.bind_exc, Out.bind_stuck, Out.seq_nx, Out.seq_rt, Out.seq_bk, Out.seq_ct, Out.seq_exc, Out.seq_stuck, Out.back_nx, Out.back_rt, Out.back_exc, Out.turn_nx, Out.turn_rt, Out.turn_ct, Out.turn_bk, List.getElem?_cons_zero, List.getElem?_cons_succ, List.set_cons_zero, List.set_cons_succ, List.cons_append, List.nil_append, List.map_cons, List.map_nil, List.replicate, List.length_cons, List.length_nil, if_true, if_false, Bool.false_eq_true, opLen, opAdd, opSub, opIx, Sw_len, Sw_add, Sw_cut, Sw_cps, Its.grab, Its.free, Nat.zero_add, Nat.sub_zero, Nat.reduceAdd, Nat.reduceSub, lit_abc, ar_bo, cut_ab, ho, hc]
    · rcases List.mem_cons.mp h4 with rfl | h4
      · exact ⟨97, .inl rfl, rfl⟩
      · rcases List.mem_cons.mp h4 with rfl | h4
        · exact ⟨98, .inr rfl, rfl⟩
        · cases h4)
  obtain ⟨w, w1, w2, w3⟩ := paired_words (ys := []) (P := fun c => c = 97 ∨ c = 98) q1
  obtain ⟨es, he, q4⟩ := q2
  refine ⟨w, es, w2, by omega, by omega, he, ?_⟩
  refine gvp_rt ?_
  have hu : unwipe [some (.ow true ds1), some (.sh (.int 2)), some (.sh (.int 1)), some (.sh (natD m)), none] ρf [4] = [some (.ow true es), some (.sh (.int 2)), some (.sh (.int 1)), some (.sh (natD m)), none] := by
    have hl : ρf.length = 5 := by rw [← wipeE_len (ρ := ρf) (vs := [4]), q4]; rfl
    match ρf, hl, q4 with
    | [a, b, c, d, e], _, q4 =>
      have q4' : [a, b, c, d, none] = [some (.ow true es), some (.sh (.int 2)), some (.sh (.int 1)), some (.sh (natD m)), none] := q4
      simp only [List.cons.injEq, and_true] at q4'
      obtain ⟨z1, z2, z3, z4⟩ := q4'
      rw [z1, z2, z3, z4]
      rfl
  rw [hu, w3] at q3
  have hj := fun ρ => opJoin_dw (w.map fun c => [c]) ρ (by rw [flat_one]; omega)
  rw [flat_one] at hj
  have hd : ∀ m2 : D, dCallN 1 g__law_draw [] [] = dCallN 1 g__law_draw [] [] := fun _ => rfl
  unfold b__law_word
  have q3' : fLc (fIr fRng1 (fCons (fBin opAdd (fVar 2) (fCall 2 g__law_draw (fCons (fVar 0) (fCons (fBin opAdd (fBin opSub (fVar 3) (fVar 2)) (fC (.int 1))) (fNil))))) (fNil))) (gN 4) (fYes) (fCall 2 g__law_pick (fCons (fVar 0) (fCons (fCB opList (fCons (fSl (fC (.str "abc")) (fNo) (fPart (fVar 1))) (fNil))) (fNil)))) [4] [some (.ow true ds), some (.sh (.int 2)), some (.sh (.int 1)), some (.sh (natD m)), none] = .ok (.fr ((w.map fun c => [c]).map dw)) [some (.ow true es), some (.sh (.int 2)), some (.sh (.int 1)), some (.sh (natD m)), none] := q3
  generalize hF : fLc (fIr fRng1 (fCons (fBin opAdd (fVar 2) (fCall 2 g__law_draw (fCons (fVar 0) (fCons (fBin opAdd (fBin opSub (fVar 3) (fVar 2)) (fC (.int 1))) (fNil))))) (fNil))) (gN 4) (fYes) (fCall 2 g__law_pick (fCons (fVar 0) (fCons (fCB opList (fCons (fSl (fC (.str "abc")) (fNo) (fPart (fVar 1))) (fNil))) (fNil)))) [4] = F at q3' ⊢
  simp only [fVar, fC, fFn, fBin, fIx, fSl, rdSl, opSl, fPart, partV, fNo, fNil, fCons, dArg, argv_sh, argv_fr, argv_bo, argv_sc, argv_fn, fNilD, fConsD, frz_sh, frz_fr, rd_sh, rd_fr, rdS_sh, rdS_fr, rdS_sc, rdS_bo, rdSs_nil', rdSs_sh, rdSs_sc, Option.map_some, rd2_sh, rdI_sh, fLst, fTup, lstV, tupV, fCB, rdC, fIsi, isiV, fCall, dIf, fSeq, fRet, fRetN, fNx, fCt, fBk, leave, fTru, tru, fBool, boolV, tAnd', tOr', tNot', opMul_l, opMul_r, opFdiv_p, opMod_p, Int.reduceLT, Int.reduceNeg, Int.reduceAdd, Int.reduceSub, Int.reduceMul, vAnd_eq, vOr_eq, andV_bool, orV_bool, bind_ite, seq_ite, turn_ite, rtOf_ite, rtOf_rt, rtOf_nx, opEq_int, opNe_int, opEq_str, opNe_str, opLt_int, opGt_int, opLe_int, opGe_int, isi_int_none, isi_int_bool, isi_int_int, isi_int_str, isi_int_list, isi_int_tuple, isi_bool_none, isi_bool_bool, isi_bool_int, isi_bool_str, isi_bool_list, isi_bool_tuple, isi_str_none, isi_str_bool, isi_str_int, isi_str_str, isi_str_list, isi_str_tuple, isi_list_none, isi_list_bool, isi_list_int, isi_list_str, isi_list_list, isi_list_tuple, isi_tuple_none, isi_tuple_bool, isi_tuple_int, isi_tuple_str, isi_tuple_list, isi_tuple_tuple, vNot, vIf, fIsN, isNV, isN, fChain_eq, truD, decide_true, decide_false, Bool.not_true, Bool.not_false, decide_eq_true_eq, Int.cast_ofNat_Int, Int.reduceLE, Int.reduceEq, Int.reduceToNat, not_true_eq_false, not_false_eq_true, Bool.true_eq_false, dSet, dSto, stS, dSetM, dMv, dAsg, gN, gT, gCons, gNil, gSubL, dPar, stosP, stoP, fConsP, dExpr, fYes, fIr, dFor, dIt, fItems, itemsOf, fApp, appV, fMt_eq, fMt0_eq, mtS_str, mtS0_str, opS_some, tyName, dSub, subV, isOw, fMut, fMut0, mutV, fExt, extV, Out.bind_ok, Out.bind_exc, Out.bind_stuck, Out.seq_nx, Out.seq_rt, Out.seq_bk, Out.seq_ct, Out.seq_exc, Out.seq_stuck, Out.back_nx, Out.back_rt, Out.back_exc, Out.turn_nx, Out.turn_rt, Out.turn_ct, Out.turn_bk, List.getElem?_cons_zero, List.getElem?_cons_succ, List.set_cons_zero, List.set_cons_succ, List.cons_append, List.nil_append, List.map_cons, List.map_nil, List.replicate, List.length_cons, List.length_nil, if_true, if_false, Bool.false_eq_true, opLen, opAdd, opSub, opIx, Sw_len, Sw_add, Sw_cut, Sw_cps, Its.grab, Its.free, Nat.zero_add, Nat.sub_zero, Nat.reduceAdd, Nat.reduceSub, lit_empty, q3', hj, rtP_rt]
theorem law_images {ds : List D} (h : PotL ds) {m : Nat} (hm : 1 ≤ m) (hm2 : m ≤ 10) : ∃ (u v : List Nat) (ds' : List D), (AB u ∧ 1 ≤ u.length ∧ u.length ≤ m) ∧ (AB v ∧ 1 ≤ v.length ∧ v.length ≤ m) ∧ PotL ds' ∧ GvP g__law_images ds [.int 2, natD m] (.sh (imD u v)) ds' := by
  obtain ⟨u, ds1, u1, u2, u3, h1, h2⟩ := law_word h hm hm2
  obtain ⟨v, ds2, v1, v2, v3, h3, h4⟩ := law_word h1 hm hm2
  refine ⟨u, v, ds2, ⟨u1, u2, u3⟩, ⟨v1, v2, v3⟩, h3, ?_⟩
  refine gvp_rt ?_
  have hz : 2 ≤ sizeLine := by have := sizeL; omega
  have q : fLc (fIr fRng1 (fCons (fVar 1) (fNil))) (gN 3) (fYes) (fCall 4 g__law_word (fCons (fVar 0) (fCons (fVar 1) (fCons (fC (.int 1)) (fCons (fVar 2) (fNil)))))) [3] [some (.ow true ds), some (.sh (.int 2)), some (.sh (natD m)), none] = .ok (.fr [dw u, dw v]) [some (.ow true ds2), some (.sh (.int 2)), some (.sh (natD m)), none] := by
    have hr : fRng1 [.sh (.int 2)] [some (SV.ow true ds), some (.sh (.int 2)), some (.sh (natD m)), none] = .ok ⟨[.int 0, .int 1], none⟩ [some (.ow true ds), some (.sh (.int 2)), some (.sh (natD m)), none] := rfl
    have c1 : dCallN 4 g__law_word [.bo 0, .sh (.int 2), .sh (.int 1), .sh (natD m)] [some (SV.ow true ds), some (.sh (.int 2)), some (.sh (natD m)), some (.sh (.int 0))] = .ok (.sh (dw u)) [some (SV.ow true ds1), some (.sh (.int 2)), some (.sh (natD m)), some (.sh (.int 0))] := callP3 h2 rfl
    have c2 : dCallN 4 g__law_word [.bo 0, .sh (.int 2), .sh (.int 1), .sh (natD m)] [some (SV.ow true ds1), some (.sh (.int 2)), some (.sh (natD m)), some (.sh (.int 1))] = .ok (.sh (dw v)) [some (SV.ow true ds2), some (.sh (.int 2)), some (.sh (natD m)), some (.sh (.int 1))] := callP3 h4 rfl
    unfold fLc
    have e1 : fIr fRng1 (fCons (fVar 1) fNil) [some (.ow true ds), some (.sh (.int 2)), some (.sh (natD m)), none] = .ok ⟨[.int 0, .int 1], none⟩ [some (.ow true ds), some (.sh (.int 2)), some (.sh (natD m)), none] := hr
    rw [e1, Out.bind_ok]
    unfold lcGo
    rw [if_pos ⟨rfl, hz⟩]
    have w1 : gN 3 (.int 0) (wipeE [some (SV.ow true ds), some (.sh (.int 2)), some (.sh (natD m)), none] [3]) = some [some (.ow true ds), some (.sh (.int 2)), some (.sh (natD m)), some (.sh (.int 0))] := rfl
    have w2 : gN 3 (.int 1) (wipeE [some (SV.ow true ds1), some (.sh (.int 2)), some (.sh (natD m)), some (.sh (.int 0))] [3]) = some [some (.ow true ds1), some (.sh (.int 2)), some (.sh (natD m)), some (.sh (.int 1))] := rfl
    have ok : ∀ ρ, Its.ok ⟨[.int 0, .int 1], none⟩ ρ = true := fun _ => rfl
    have gr : ∀ ρ, Its.grab ⟨[.int 0, .int 1], none⟩ ρ = ρ := fun _ => rfl
    have fr : ∀ ρ, Its.free ⟨[.int 0, .int 1], none⟩ ρ = ρ := fun _ => rfl
    have c1' : fCall 4 g__law_word (fCons (fVar 0) (fCons (fVar 1) (fCons (fC (.int 1)) (fCons (fVar 2) (fNil))))) [some (SV.ow true ds), some (.sh (.int 2)), some (.sh (natD m)), some (.sh (.int 0))] = .ok (.sh (dw u)) [some (SV.ow true ds1), some (.sh (.int 2)), some (.sh (natD m)), some (.sh (.int 0))] := c1
    have c2' : fCall 4 g__law_word (fCons (fVar 0) (fCons (fVar 1) (fCons (fC (.int 1)) (fCons (fVar 2) (fNil))))) [some (SV.ow true ds1), some (.sh (.int 2)), some (.sh (natD m)), some (.sh (.int 1))] = .ok (.sh (dw v)) [some (SV.ow true ds2), some (.sh (.int 2)), some (.sh (natD m)), some (.sh (.int 1))] := c2
    simp only [lcL, ok, gr, fr, if_true, w1, w2, fYes, noX_ok, Out.bind_ok, c1', c2', frz_sh, List.nil_append, List.cons_append]
    rfl
  unfold b__law_images
  generalize hF : fLc (fIr fRng1 (fCons (fVar 1) (fNil))) (gN 3) (fYes) (fCall 4 g__law_word (fCons (fVar 0) (fCons (fVar 1) (fCons (fC (.int 1)) (fCons (fVar 2) (fNil)))))) [3] = F at q ⊢
  have ht : ∀ ρ, opTuple [.list [dw u, dw v]] ρ = .ok (.sh (.tuple [dw u, dw v])) ρ := fun _ => rfl
  simp only [fVar, fC, fFn, fBin, fIx, fSl, rdSl, opSl, fPart, partV, fNo, fNil, fCons, dArg, argv_sh, argv_fr, argv_bo, argv_sc, argv_fn, fNilD, fConsD, frz_sh, frz_fr, rd_sh, rd_fr, rdS_sh, rdS_fr, rdS_sc, rdS_bo, rdSs_nil', rdSs_sh, rdSs_sc, Option.map_some, rd2_sh, rdI_sh, fLst, fTup, lstV, tupV, fCB, rdC, fIsi, isiV, fCall, dIf, fSeq, fRet, fRetN, fNx, fCt, fBk, leave, fTru, tru, fBool, boolV, tAnd', tOr', tNot', opMul_l, opMul_r, opFdiv_p, opMod_p, Int.reduceLT, Int.reduceNeg, Int.reduceAdd, Int.reduceSub, Int.reduceMul, vAnd_eq, vOr_eq, andV_bool, orV_bool, bind_ite, seq_ite, turn_ite, rtOf_ite, rtOf_rt, rtOf_nx, opEq_int, opNe_int, opEq_str, opNe_str, opLt_int, opGt_int, opLe_int, opGe_int, isi_int_none, isi_int_bool, isi_int_int, isi_int_str, isi_int_list, isi_int_tuple, isi_bool_none, isi_bool_bool, isi_bool_int, isi_bool_str, isi_bool_list, isi_bool_tuple, isi_str_none, isi_str_bool, isi_str_int, isi_str_str, isi_str_list, isi_str_tuple, isi_list_none, isi_list_bool, isi_list_int, isi_list_str, isi_list_list, isi_list_tuple, isi_tuple_none, isi_tuple_bool, isi_tuple_int, isi_tuple_str, isi_tuple_list, isi_tuple_tuple, vNot, vIf, fIsN, isNV, isN, fChain_eq, truD, decide_true, decide_false, Bool.not_true, Bool.not_false, decide_eq_true_eq, Int.cast_ofNat_Int, Int.reduceLE, Int.reduceEq, Int.reduceToNat, not_true_eq_false, not_false_eq_true, Bool.true_eq_false, dSet, dSto, stS, dSetM, dMv, dAsg, gN, gT, gCons, gNil, gSubL, dPar, stosP, stoP, fConsP, dExpr, fYes, fIr, dFor, dIt, fItems, itemsOf, fApp, appV, fMt_eq, fMt0_eq, mtS_str, mtS0_str, opS_some, tyName, dSub, subV, isOw, fMut, fMut0, mutV, fExt, extV, Out.bind_ok, Out.bind_exc, Out.bind_stuck, Out.seq_nx, Out.seq_rt, Out.seq_bk, Out.seq_ct, Out.seq_exc, Out.seq_stuck, Out.back_nx, Out.back_rt, Out.back_exc, Out.turn_nx, Out.turn_rt, Out.turn_ct, Out.turn_bk, List.getElem?_cons_zero, List.getElem?_cons_succ, List.set_cons_zero, List.set_cons_succ, List.cons_append, List.nil_append, List.map_cons, List.map_nil, List.replicate, List.length_cons, List.length_nil, if_true, if_false, Bool.false_eq_true, opLen, opAdd, opSub, opIx, Sw_len, Sw_add, Sw_cut, Sw_cps, Its.grab, Its.free, Nat.zero_add, Nat.sub_zero, Nat.reduceAdd, Nat.reduceSub, q, ht, lit_images, hz, rtP_rt]
  rfl
end K87
namespace K87
open PySem DL
/-! ### the rows -/
def rowD (r : List Nat × List Nat) : D := imD r.1 r.2
theorem lit_a : ("a" : Str) = Sw [97] := by decide +kernel
theorem lit_b : ("b" : Str) = Sw [98] := by decide +kernel
theorem lit_ab : ("ab" : Str) = Sw [97, 98] := by decide +kernel
theorem lit_abba : ("abba" : Str) = Sw [97, 98, 98, 97] := by decide +kernel
theorem isOw0 (b : Bool) (ds : List D) (ρ : DL.Env) : isOw 0 (some (.ow b ds) :: ρ) = true := rfl
theorem extV0 (b : Bool) (ds es : List D) (ρ : DL.Env) : extV 0 (.fr es) (some (.ow b ds) :: ρ) = if ds.length + es.length ≤ sizeLine then .ok (.sh .none) (some (.ow b (ds ++ es)) :: ρ) else .stuck := rfl
theorem leave0 (ds : List D) (ρ : DL.Env) : leave (.bo 0) (some (.ow false ds) :: ρ) = .ok (.rt (.fr ds)) (none :: ρ) := rfl
def rowStep (s : List (List Nat × List Nat)) (w : List Nat) : List (List Nat × List Nat) := s ++ [(w, flipW w), (flipW w, w)]
theorem flip_fl (w : List Nat) : (w.map fun c => [flip1 c]).flatten = flipW w := by
  induction w with
  | nil => rfl
  | cons c w ih => simp only [List.map_cons, List.flatten_cons, ih, flipW, List.cons_append, List.nil_append]
theorem law_rows_eq : Gv g__law_rows [] (.fr (rowsP.map rowD)) := by
  refine gv_rt ?_
  unfold b__law_rows
  let R : List (List Nat × List Nat) → DL.Env → Prop := fun s ρ => ∃ m1 m2 : Option D, ρ = [some (.ow false (s.map rowD)), m1.map .sh, m2.map .sh, none]
  have e0 : (dSet 0 (fLst (fNilD))) [none, none, none, none] = .ok .nx [some (.ow false []), none, none, none] := rfl
  refine (congrArg (fun o => rtOf (Out.seq o _)) e0).trans ?_
  rw [Out.seq_nx]
  refine seq_foldP (fun o => rtOf o = _) roots dw R rowStep [] (ρ1 := [some (.ow false []), none, none, none]) ?hi ⟨none, none, rfl⟩ ?hs ?hm
  case hi =>
    have hz : 4 ≤ sizeLine := by have := sizeL; omega
    simp only [fVar, fC, fFn, fBin, fIx, fSl, rdSl, opSl, fPart, partV, fNo, fNil, fCons, dArg, argv_sh, argv_fr, argv_bo, argv_sc, argv_fn, fNilD, fConsD, frz_sh, frz_fr, rd_sh, rd_fr, rdS_sh, rdS_fr, rdS_sc, rdS_bo, rdSs_nil', rdSs_sh, rdSs_sc, Option.map_some, rd2_sh, rdI_sh, fLst, fTup, lstV, tupV, fCB, rdC, fIsi, isiV, fCall, dIf, fSeq, fRet, fRetN, fNx, fCt, fBk, leave, fTru, tru, fBool, boolV, tAnd', tOr', tNot', opMul_l, opMul_r, opFdiv_p, opMod_p, Int.reduceLT, Int.reduceNeg, Int.reduceAdd, Int.reduceSub, Int.reduceMul, vAnd_eq, vOr_eq, andV_bool, orV_bool, bind_ite, seq_ite, turn_ite, rtOf_ite, rtOf_rt, rtOf_nx, opEq_int, opNe_int, opEq_str, opNe_str, opLt_int, opGt_int, opLe_int, opGe_int, isi_int_none, isi_int_bool, isi_int_int, isi_int_str, isi_int_list, isi_int_tuple, isi_bool_none, isi_bool_bool, isi_bool_int, isi_bool_str, isi_bool_list, isi_bool_tuple, isi_str_none, isi_str_bool, isi_str_int, isi_str_str, isi_str_list, isi_str_tuple, isi_list_none, isi_list_bool, isi_list_int, isi_list_str, isi_list_list, isi_list_tuple, isi_tuple_none, isi_tuple_bool, isi_tuple_int, isi_tuple_str, isi_tuple_list, isi_tuple_tuple, vNot, vIf, fIsN, isNV, isN, fChain_eq, truD, decide_true, decide_false, Bool.not_true, Bool.not_false, decide_eq_true_eq, Int.cast_ofNat_Int, Int.reduceLE, Int.reduceEq, Int.reduceToNat, not_true_eq_false, not_false_eq_true, Bool.true_eq_false, dSet, dSto, stS, dSetM, dMv, dAsg, gN, gT, gCons, gNil, gSubL, dPar, stosP, stoP, fConsP, dExpr, fYes, fIr, dFor, dIt, fItems, itemsOf, fApp, appV, fMt_eq, fMt0_eq, mtS_str, mtS0_str, opS_some, tyName, dSub, subV, isOw, fMut, fMut0, mutV, fExt, extV, Out.bind_ok, Out.bind_exc, Out.bind_stuck, Out.seq_nx, Out.seq_rt, Out.seq_bk, Out.seq_ct, Out.seq_exc, Out.seq_stuck, Out.back_nx, Out.back_rt, Out.back_exc, Out.turn_nx, Out.turn_rt, Out.turn_ct, Out.turn_bk, List.getElem?_cons_zero, List.getElem?_cons_succ, List.set_cons_zero, List.set_cons_succ, List.cons_append, List.nil_append, List.map_cons, List.map_nil, List.replicate, List.length_cons, List.length_nil, if_true, if_false, Bool.false_eq_true, opLen, opAdd, opSub, opIx, Sw_len, Sw_add, Sw_cut, Sw_cps, Its.grab, Its.free, Nat.zero_add, Nat.sub_zero, Nat.reduceAdd, Nat.reduceSub, lit_a, lit_ab, lit_abba, lit_test, hz]
    rfl
  case hm =>
    rintro ρ2 ⟨m1, m2, rfl⟩
    have e : roots.foldl rowStep [] = rowsP := by decide +kernel
    rw [e]
    simp only [fVar, fC, fFn, fBin, fIx, fSl, rdSl, opSl, fPart, partV, fNo, fNil, fCons, dArg, argv_sh, argv_fr, argv_bo, argv_sc, argv_fn, fNilD, fConsD, frz_sh, frz_fr, rd_sh, rd_fr, rdS_sh, rdS_fr, rdS_sc, rdS_bo, rdSs_nil', rdSs_sh, rdSs_sc, Option.map_some, rd2_sh, rdI_sh, fLst, fTup, lstV, tupV, fCB, rdC, fIsi, isiV, fCall, dIf, fSeq, fRet, fRetN, fNx, fCt, fBk, leave, fTru, tru, fBool, boolV, tAnd', tOr', tNot', opMul_l, opMul_r, opFdiv_p, opMod_p, Int.reduceLT, Int.reduceNeg, Int.reduceAdd, Int.reduceSub, Int.reduceMul, vAnd_eq, vOr_eq, andV_bool, orV_bool, bind_ite, seq_ite, turn_ite, rtOf_ite, rtOf_rt, rtOf_nx, opEq_int, opNe_int, opEq_str, opNe_str, opLt_int, opGt_int, opLe_int, opGe_int, isi_int_none, isi_int_bool, isi_int_int, isi_int_str, isi_int_list, isi_int_tuple, isi_bool_none, isi_bool_bool, isi_bool_int, isi_bool_str, isi_bool_list, isi_bool_tuple, isi_str_none, isi_str_bool, isi_str_int, isi_str_str, isi_str_list, isi_str_tuple, isi_list_none, isi_list_bool, isi_list_int, isi_list_str, isi_list_list, isi_list_tuple, isi_tuple_none, isi_tuple_bool, isi_tuple_int, isi_tuple_str, isi_tuple_list, isi_tuple_tuple, vNot, vIf, fIsN, isNV, isN, fChain_eq, truD, decide_true, decide_false, Bool.not_true, Bool.not_false, decide_eq_true_eq, Int.cast_ofNat_Int, Int.reduceLE, Int.reduceEq, Int.reduceToNat, not_true_eq_false, not_false_eq_true, Bool.true_eq_false, dSet, dSto, stS, dSetM, dMv, dAsg, gN, gT, gCons, gNil, gSubL, dPar, stosP, stoP, fConsP, dExpr, fYes, fIr, dFor, dIt, fItems, itemsOf, fApp, appV, fMt_eq, fMt0_eq, mtS_str, mtS0_str, opS_some, tyName, dSub, subV, isOw, fMut, fMut0, mutV, fExt, extV, Out.bind_ok, Out.bind_exc, Out.bind_stuck, Out.seq_nx, Out.seq_rt, Out.seq_bk, Out.seq_ct, Out.seq_exc, Out.seq_stuck, Out.back_nx, Out.back_rt, Out.back_exc, Out.turn_nx, Out.turn_rt, Out.turn_ct, Out.turn_bk, List.getElem?_cons_zero, List.getElem?_cons_succ, List.set_cons_zero, List.set_cons_succ, List.cons_append, List.nil_append, List.map_cons, List.map_nil, List.replicate, List.length_cons, List.length_nil, if_true, if_false, Bool.false_eq_true, opLen, opAdd, opSub, opIx, Sw_len, Sw_add, Sw_cut, Sw_cps, Its.grab, Its.free, Nat.zero_add, Nat.sub_zero, Nat.reduceAdd, Nat.reduceSub, leave0]
  case hs =>
    rintro pre w post hx ρ ⟨m1, m2, rfl⟩
    have hw : w.length ≤ 8 ∧ pre.length ≤ 4 := by
      have h1 : w ∈ roots := by rw [hx]; simp
      have h2 : (roots.all fun w => decide (w.length ≤ 8)) = true := by decide +kernel
      rw [List.all_eq_true] at h2
      have h3 := h2 w h1
      have h4 := congrArg List.length hx
      simp only [List.length_append, List.length_cons, roots, List.length_nil] at h4
      exact ⟨by simpa using h3, by omega⟩
    have hfl : (pre.foldl rowStep []).length ≤ 2 * pre.length := by
      have : ∀ (xs : List (List Nat)) (s : List (List Nat × List Nat)), (xs.foldl rowStep s).length = s.length + 2 * xs.length := by
        intro xs
        induction xs with
        | nil => intro s; rfl
        | cons x xs ih => intro s; rw [List.foldl_cons, ih]; simp only [rowStep, List.length_append, List.length_cons, List.length_nil]; omega
      rw [this]; simp
    generalize pre.foldl rowStep [] = s at hfl ⊢
    refine ⟨[some (.ow false (s.map rowD)), some (.sh (dw w)), m2.map .sh, none], by cases m1 <;> rfl, ?_⟩
    refine ⟨[some (.ow false ((rowStep s w).map rowD)), some (.sh (dw w)), some (.sh (dw (flipW w))), none], ⟨some (dw w), some (dw (flipW w)), rfl⟩, ?_⟩
    have hz : 2 ≤ sizeLine := by have := sizeL; omega
    have hsz : (s.map rowD).length + 2 ≤ sizeLine := by have := sizeL; rw [List.length_map]; omega
    have q : fLc (dIt (fVar 1)) (gN 3) (fYes) (vIf (fBool (fBin opEq (fVar 3) (fC (.str "a")))) (fC (.str "b")) (fC (.str "a"))) [3] [some (.ow false (s.map rowD)), some (.sh (dw w)), m2.map .sh, none] = .ok (.fr ((w.map fun c => [flip1 c]).map dw)) [some (.ow false (s.map rowD)), some (.sh (dw w)), m2.map .sh, none] := by
      rw [fLc_map (ds := w.map sign) (fun d => match d with | .str x => dw [flip1 (x.cps.toList.headD 0)] | _ => .none) ?_ ?_ ?_ ?_]
      · rw [List.map_map, List.map_map]; rfl
      · cases m2 <;> rfl
      · cases m2 <;> rfl
      · have := sizeL; rw [List.length_map]; omega
      · intro d hd
        obtain ⟨c, hc, rfl⟩ := List.mem_map.mp hd
        refine ⟨[some (.ow false (s.map rowD)), some (.sh (dw w)), m2.map .sh, some (.sh (sign c))], by cases m2 <;> rfl, by cases m2 <;> rfl, ?_⟩
        simp only [fVar, fC, fFn, fBin, fIx, fSl, rdSl, opSl, fPart, partV, fNo, fNil, fCons, dArg, argv_sh, argv_fr, argv_bo, argv_sc, argv_fn, fNilD, fConsD, frz_sh, frz_fr, rd_sh, rd_fr, rdS_sh, rdS_fr, rdS_sc, rdS_bo, rdSs_nil', rdSs_sh, rdSs_sc, Option.map_some, rd2_sh, rdI_sh, fLst, fTup, lstV, tupV, fCB, rdC, fIsi, isiV, fCall, dIf, fSeq, fRet, fRetN, fNx, fCt, fBk, leave, fTru, tru, fBool, boolV, tAnd', tOr', tNot', opMul_l, opMul_r, opFdiv_p, opMod_p, Int.reduceLT, Int.reduceNeg, Int.reduceAdd, Int.reduceSub, Int.reduceMul, vAnd_eq, vOr_eq, andV_bool, orV_bool, bind_ite, seq_ite, turn_ite, rtOf_ite, rtOf_rt, rtOf_nx, opEq_int, opNe_int, opEq_str, opNe_str, opLt_int, opGt_int, opLe_int, opGe_int, isi_int_none, isi_int_bool, isi_int_int, isi_int_str, isi_int_list, isi_int_tuple, isi_bool_none, isi_bool_bool, isi_bool_int, isi_bool_str, isi_bool_list, isi_bool_tuple, isi_str_none, isi_str_bool, isi_str_int, isi_str_str, isi_str_list, isi_str_tuple, isi_list_none, isi_list_bool, isi_list_int, isi_list_str, isi_list_list, isi_list_tuple, isi_tuple_none, isi_tuple_bool, isi_tuple_int, isi_tuple_str, isi_tuple_list, isi_tuple_tuple, vNot, vIf, fIsN, isNV, isN, fChain_eq, truD, decide_true, decide_false, Bool.not_true, Bool.not_false, decide_eq_true_eq, Int.cast_ofNat_Int, Int.reduceLE, Int.reduceEq, Int.reduceToNat, not_true_eq_false, not_false_eq_true, Bool.true_eq_false, dSet, dSto, stS, dSetM, dMv, dAsg, gN, gT, gCons, gNil, gSubL, dPar, stosP, stoP, fConsP, dExpr, fYes, fIr, dFor, dIt, fItems, itemsOf, fApp, appV, fMt_eq, fMt0_eq, mtS_str, mtS0_str, opS_some, tyName, dSub, subV, isOw, fMut, fMut0, mutV, fExt, extV, Out.bind_ok, Out.bind_exc, Out.bind_stuck, Out.seq_nx, Out.seq_rt, Out.seq_bk, Out.seq_ct, Out.seq_exc, Out.seq_stuck, Out.back_nx, Out.back_rt, Out.back_exc, Out.turn_nx, Out.turn_rt, Out.turn_ct, Out.turn_bk, List.getElem?_cons_zero, List.getElem?_cons_succ, List.set_cons_zero, List.set_cons_succ, List.cons_append, List.nil_append, List.map_cons, List.map_nil, List.replicate, List.length_cons, List.length_nil, if_true, if_false, Bool.false_eq_true, opLen, opAdd, opSub, opIx, Sw_len, Sw_add, Sw_cut, Sw_cps, Its.grab, Its.free, Nat.zero_add, Nat.sub_zero, Nat.reduceAdd, Nat.reduceSub, lit_a, lit_b, sign_dw]
        show _ = Out.ok (dw [flip1 c]) _
        unfold flip1
        by_cases h : c = 97
        · subst h; simp only [decide_true, if_true]
        · have h' : ¬ [c] = [97] := by simp [h]
          simp only [h, h', decide_false, if_false]
    have hj := fun ρ => opJoin_dw (w.map fun c => [flip1 c]) ρ (by rw [flip_fl]; simp [flipW]; omega)
    rw [flip_fl] at hj
    have e2 : dSet 2 (fMt "str" opJoin (fC (.str "")) (fCons (fLc (dIt (fVar 1)) (gN 3) (fYes) (vIf (fBool (fBin opEq (fVar 3) (fC (.str "a")))) (fC (.str "b")) (fC (.str "a"))) [3]) (fNil))) [some (.ow false (s.map rowD)), some (.sh (dw w)), m2.map .sh, none] = .ok .nx [some (.ow false (s.map rowD)), some (.sh (dw w)), some (.sh (dw (flipW w))), none] := by
      generalize fLc (dIt (fVar 1)) (gN 3) (fYes) (vIf (fBool (fBin opEq (fVar 3) (fC (.str "a")))) (fC (.str "b")) (fC (.str "a"))) [3] = F at q ⊢
      simp only [fVar, fC, fFn, fBin, fIx, fSl, rdSl, opSl, fPart, partV, fNo, fNil, fCons, dArg, argv_sh, argv_fr, argv_bo, argv_sc, argv_fn, fNilD, fConsD, frz_sh, frz_fr, rd_sh, rd_fr, rdS_sh, rdS_fr, rdS_sc, rdS_bo, rdSs_nil', rdSs_sh, rdSs_sc, Option.map_some, rd2_sh, rdI_sh, fLst, fTup, lstV, tupV, fCB, rdC, fIsi, isiV, fCall, dIf, fSeq, fRet, fRetN, fNx, fCt, fBk, leave, fTru, tru, fBool, boolV, tAnd', tOr', tNot', opMul_l, opMul_r, opFdiv_p, opMod_p, Int.reduceLT, Int.reduceNeg, Int.reduceAdd, Int.reduceSub, Int.reduceMul, vAnd_eq, vOr_eq, andV_bool, orV_bool, bind_ite, seq_ite, turn_ite, rtOf_ite, rtOf_rt, rtOf_nx, opEq_int, opNe_int, opEq_str, opNe_str, opLt_int, opGt_int, opLe_int, opGe_int, isi_int_none, isi_int_bool, isi_int_int, isi_int_str, isi_int_list, isi_int_tuple, isi_bool_none, isi_bool_bool, isi_bool_int, isi_bool_str, isi_bool_list, isi_bool_tuple, isi_str_none, isi_str_bool, isi_str_int, isi_str_str, isi_str_list, isi_str_tuple, isi_list_none, isi_list_bool, isi_list_int, isi_list_str, isi_list_list, isi_list_tuple, isi_tuple_none, isi_tuple_bool, isi_tuple_int, isi_tuple_str, isi_tuple_list, isi_tuple_tuple, vNot, vIf, fIsN, isNV, isN, fChain_eq, truD, decide_true, decide_false, Bool.not_true, Bool.not_false, decide_eq_true_eq, Int.cast_ofNat_Int, Int.reduceLE, Int.reduceEq, Int.reduceToNat, not_true_eq_false, not_false_eq_true, Bool.true_eq_false, dSet, dSto, stS, dSetM, dMv, dAsg, gN, gT, gCons, gNil, gSubL, dPar, stosP, stoP, fConsP, dExpr, fYes, fIr, dFor, dIt, fItems, itemsOf, fApp, appV, fMt_eq, fMt0_eq, mtS_str, mtS0_str, opS_some, tyName, dSub, subV, isOw, fMut, fMut0, mutV, fExt, extV, Out.bind_ok, Out.bind_exc, Out.bind_stuck, Out.seq_nx, Out.seq_rt, Out.seq_bk, Out.seq_ct, Out.seq_exc, Out.seq_stuck, Out.back_nx, Out.back_rt, Out.back_exc, Out.turn_nx, Out.turn_rt, Out.turn_ct, Out.turn_bk, List.getElem?_cons_zero, List.getElem?_cons_succ, List.set_cons_zero, List.set_cons_succ, List.cons_append, List.nil_append, List.map_cons, List.map_nil, List.replicate, List.length_cons, List.length_nil, if_true, if_false, Bool.false_eq_true, opLen, opAdd, opSub, opIx, Sw_len, Sw_add, Sw_cut, Sw_cps, Its.grab, Its.free, Nat.zero_add, Nat.sub_zero, Nat.reduceAdd, Nat.reduceSub, lit_empty, q, hj]
      cases m2 <;> rfl
    refine (congrArg (fun o => Out.seq o _) e2).trans ?_
    rw [Out.seq_nx]
    simp only [fVar, fC, fFn, fBin, fIx, fSl, rdSl, opSl, fPart, partV, fNo, fNil, fCons, dArg, argv_sh, argv_fr, argv_bo, argv_sc, argv_fn, fNilD, fConsD, frz_sh, frz_fr, rd_sh, rd_fr, rdS_sh, rdS_fr, rdS_sc, rdS_bo, rdSs_nil', rdSs_sh, rdSs_sc, Option.map_some, rd2_sh, rdI_sh, fLst, fTup, lstV, tupV, fCB, rdC, fIsi, isiV, fCall, dIf, fSeq, fRet, fRetN, fNx, fCt, fBk, leave, fTru, tru, fBool, boolV, tAnd', tOr', tNot', opMul_l, opMul_r, opFdiv_p, opMod_p, Int.reduceLT, Int.reduceNeg, Int.reduceAdd, Int.reduceSub, Int.reduceMul, vAnd_eq, vOr_eq, andV_bool, orV_bool, bind_ite, seq_ite, turn_ite, rtOf_ite, rtOf_rt, rtOf_nx, opEq_int, opNe_int, opEq_str, opNe_str, opLt_int, opGt_int, opLe_int, opGe_int, isi_int_none, isi_int_bool, isi_int_int, isi_int_str, isi_int_list, isi_int_tuple, isi_bool_none, isi_bool_bool, isi_bool_int, isi_bool_str, isi_bool_list, isi_bool_tuple, isi_str_none, isi_str_bool, isi_str_int, isi_str_str, isi_str_list, isi_str_tuple, isi_list_none, isi_list_bool, isi_list_int, isi_list_str, isi_list_list, isi_list_tuple, isi_tuple_none, isi_tuple_bool, isi_tuple_int, isi_tuple_str, isi_tuple_list, isi_tuple_tuple, vNot, vIf, fIsN, isNV, isN, fChain_eq, truD, decide_true, decide_false, Bool.not_true, Bool.not_false, decide_eq_true_eq, Int.cast_ofNat_Int, Int.reduceLE, Int.reduceEq, Int.reduceToNat, not_true_eq_false, not_false_eq_true, Bool.true_eq_false, dSet, dSto, stS, dSetM, dMv, dAsg, gN, gT, gCons, gNil, gSubL, dPar, stosP, stoP, fConsP, dExpr, fYes, fIr, dFor, dIt, fItems, itemsOf, fApp, appV, fMt_eq, fMt0_eq, mtS_str, mtS0_str, opS_some, tyName, dSub, subV, isOw, fMut, fMut0, mutV, fExt, extV, Out.bind_ok, Out.bind_exc, Out.bind_stuck, Out.seq_nx, Out.seq_rt, Out.seq_bk, Out.seq_ct, Out.seq_exc, Out.seq_stuck, Out.back_nx, Out.back_rt, Out.back_exc, Out.turn_nx, Out.turn_rt, Out.turn_ct, Out.turn_bk, List.getElem?_cons_zero, List.getElem?_cons_succ, List.set_cons_zero, List.set_cons_succ, List.cons_append, List.nil_append, List.map_cons, List.map_nil, List.replicate, List.length_cons, List.length_nil, if_true, if_false, Bool.false_eq_true, opLen, opAdd, opSub, opIx, Sw_len, Sw_add, Sw_cut, Sw_cps, Its.grab, Its.free, Nat.zero_add, Nat.sub_zero, Nat.reduceAdd, Nat.reduceSub, isOw0, lit_images, hz, extV0, hsz]
    unfold rowStep
    rw [List.map_append]
    rfl
/-! ### the words without overlaps -/
def freeIn (w : List Nat) : List (List Nat) := [w ++ [97], w ++ [98]].filter fun x => (ovF x).isNone
def freeSt (s : List (List Nat)) (w : List Nat) : List (List Nat) := s ++ freeIn w
def freeStep (s : List (List Nat) × List (List Nat)) (_ : Nat) : List (List Nat) × List (List Nat) := (s.1 ++ s.2.foldl freeSt [], s.2.foldl freeSt [])
def freeN (n : Nat) : List (List Nat) := ((List.range' 0 n).foldl freeStep ([[]], [[]])).1
theorem freeSt_len : ∀ (ws s : List (List Nat)), (ws.foldl freeSt s).length ≤ s.length + 2 * ws.length
  | [], s => by simp
  | w :: ws, s => by
    have h := freeSt_len ws (freeSt s w)
    have h2 : (freeIn w).length ≤ 2 := by unfold freeIn; exact Nat.le_trans (List.length_filter_le _ _) (by simp)
    simp only [List.foldl_cons, List.length_cons]
    simp only [freeSt, List.length_append] at h ⊢
    omega
def freeOk (s : List (List Nat) × List (List Nat)) : Bool := decide (s.1.length ≤ 1000) && decide (s.2.length ≤ 1000) && s.2.all fun w => decide (w.length ≤ 10)
theorem free_ok : ((List.range 6).all fun k => freeOk (((List.range' 0 6).take k).foldl freeStep ([[]], [[]]))) = true := by decide +kernel
theorem isOw4 (a b c d : Option SV) (k : Bool) (ds : List D) (ρ : DL.Env) : isOw 4 (a :: b :: c :: d :: some (.ow k ds) :: ρ) = true := rfl
theorem extV4 (a b c d : Option SV) (k : Bool) (ds es : List D) (ρ : DL.Env) : extV 4 (.fr es) (a :: b :: c :: d :: some (.ow k ds) :: ρ) = if ds.length + es.length ≤ sizeLine then .ok (.sh .none) (a :: b :: c :: d :: some (.ow k (ds ++ es)) :: ρ) else .stuck := rfl
theorem leave1 (a : Option SV) (ds : List D) (ρ : DL.Env) : leave (.bo 1) (a :: some (.ow false ds) :: ρ) = .ok (.rt (.fr ds)) (a :: none :: ρ) := rfl
theorem law_free_eq : Gv g__law_free [.int 6] (.fr ((freeN 6).map dw)) := by
  refine gv_rt ?_
  unfold b__law_free
  let R : List (List Nat) × List (List Nat) → DL.Env → Prop := fun s ρ => ∃ m3 m5 : Option D, ρ = [some (.sh (.int 6)), some (.ow false (s.1.map dw)), some (.ow false (s.2.map dw)), m3.map .sh, none, m5.map .sh, none]
  have hz : 1 ≤ sizeLine := by have := sizeL; omega
  have e0 : (dPar [1, 2] (fConsP (fLst (fConsD (fC (.str "")) (fNilD))) (fConsP (fLst (fConsD (fC (.str "")) (fNilD))) (fNil)))) [some (.sh (.int 6)), none, none, none, none, none, none] = .ok .nx [some (.sh (.int 6)), some (.ow false [dw []]), some (.ow false [dw []]), none, none, none, none] := by
    simp only [fVar, fC, fFn, fBin, fIx, fSl, rdSl, opSl, fPart, partV, fNo, fNil, fCons, dArg, argv_sh, argv_fr, argv_bo, argv_sc, argv_fn, fNilD, fConsD, frz_sh, frz_fr, rd_sh, rd_fr, rdS_sh, rdS_fr, rdS_sc, rdS_bo, rdSs_nil', rdSs_sh, rdSs_sc, Option.map_some, rd2_sh, rdI_sh, fLst, fTup, lstV, tupV, fCB, rdC, fIsi, isiV, fCall, dIf, fSeq, fRet, fRetN, fNx, fCt, fBk, leave, fTru, tru, fBool, boolV, tAnd', tOr', tNot', opMul_l, opMul_r, opFdiv_p, opMod_p, Int.reduceLT, Int.reduceNeg, Int.reduceAdd, Int.reduceSub, Int.reduceMul, vAnd_eq, vOr_eq, andV_bool, orV_bool, bind_ite, seq_ite, turn_ite, rtOf_ite, rtOf_rt, rtOf_nx, opEq_int, opNe_int, opEq_str, opNe_str, opLt_int, opGt_int, opLe_int, opGe_int, isi_int_none, isi_int_bool, isi_int_int, isi_int_str, isi_int_list, isi_int_tuple, isi_bool_none, isi_bool_bool, isi_bool_int, isi_bool_str, isi_bool_list, isi_bool_tuple, isi_str_none, isi_str_bool, isi_str_int, isi_str_str, isi_str_list, isi_str_tuple, isi_list_none, isi_list_bool, isi_list_int, isi_list_str, isi_list_list, isi_list_tuple, isi_tuple_none, isi_tuple_bool, isi_tuple_int, isi_tuple_str, isi_tuple_list, isi_tuple_tuple, vNot, vIf, fIsN, isNV, isN, fChain_eq, truD, decide_true, decide_false, Bool.not_true, Bool.not_false, decide_eq_true_eq, Int.cast_ofNat_Int, Int.reduceLE, Int.reduceEq, Int.reduceToNat, not_true_eq_false, not_false_eq_true, Bool.true_eq_false, dSet, dSto, stS, dSetM, dMv, dAsg, gN, gT, gCons, gNil, gSubL, dPar, stosP, stoP, fConsP, dExpr, fYes, fIr, dFor, dIt, fItems, itemsOf, fApp, appV, fMt_eq, fMt0_eq, mtS_str, mtS0_str, opS_some, tyName, dSub, subV, isOw, fMut, fMut0, mutV, fExt, extV, Out.bind_ok, Out.bind_exc, Out.bind_stuck, Out.seq_nx, Out.seq_rt, Out.seq_bk, Out.seq_ct, Out.seq_exc, Out.seq_stuck, Out.back_nx, Out.back_rt, Out.back_exc, Out.turn_nx, Out.turn_rt, Out.turn_ct, Out.turn_bk, List.getElem?_cons_zero, List.getElem?_cons_succ, List.set_cons_zero, List.set_cons_succ, List.cons_append, List.nil_append, List.map_cons, List.map_nil, List.replicate, List.length_cons, List.length_nil, if_true, if_false, Bool.false_eq_true, opLen, opAdd, opSub, opIx, Sw_len, Sw_add, Sw_cut, Sw_cps, Its.grab, Its.free, Nat.zero_add, Nat.sub_zero, Nat.reduceAdd, Nat.reduceSub, lit_empty, hz]
  refine (congrArg (fun o => rtOf (Out.seq o _)) e0).trans ?_
  rw [Out.seq_nx]
  refine seq_foldP (fun o => rtOf o = _) (List.range' 0 6) natD R freeStep ([[]], [[]]) (ρ1 := [some (.sh (.int 6)), some (.ow false [dw []]), some (.ow false [dw []]), none, none, none, none]) ?hi ⟨none, none, rfl⟩ ?hs ?hm
  case hi => rfl
  case hm =>
    rintro ρ2 ⟨m3, m5, rfl⟩
    show rtOf (fSeq (fRet (fVar 1)) fNx [some (.sh (.int 6)), some (.ow false ((freeN 6).map dw)), _, _, _, _, _]) = _
    simp only [fVar, fC, fFn, fBin, fIx, fSl, rdSl, opSl, fPart, partV, fNo, fNil, fCons, dArg, argv_sh, argv_fr, argv_bo, argv_sc, argv_fn, fNilD, fConsD, frz_sh, frz_fr, rd_sh, rd_fr, rdS_sh, rdS_fr, rdS_sc, rdS_bo, rdSs_nil', rdSs_sh, rdSs_sc, Option.map_some, rd2_sh, rdI_sh, fLst, fTup, lstV, tupV, fCB, rdC, fIsi, isiV, fCall, dIf, fSeq, fRet, fRetN, fNx, fCt, fBk, leave, fTru, tru, fBool, boolV, tAnd', tOr', tNot', opMul_l, opMul_r, opFdiv_p, opMod_p, Int.reduceLT, Int.reduceNeg, Int.reduceAdd, Int.reduceSub, Int.reduceMul, vAnd_eq, vOr_eq, andV_bool, orV_bool, bind_ite, seq_ite, turn_ite, rtOf_ite, rtOf_rt, rtOf_nx, opEq_int, opNe_int, opEq_str, opNe_str, opLt_int, opGt_int, opLe_int, opGe_int, isi_int_none, isi_int_bool, isi_int_int, isi_int_str, isi_int_list, isi_int_tuple, isi_bool_none, isi_bool_bool, isi_bool_int, isi_bool_str, isi_bool_list, isi_bool_tuple, isi_str_none, isi_str_bool, isi_str_int, isi_str_str, isi_str_list, isi_str_tuple, isi_list_none, isi_list_bool, isi_list_int, isi_list_str, isi_list_list, isi_list_tuple, isi_tuple_none, isi_tuple_bool, isi_tuple_int, isi_tuple_str, isi_tuple_list, isi_tuple_tuple, vNot, vIf, fIsN, isNV, isN, fChain_eq, truD, decide_true, decide_false, Bool.not_true, Bool.not_false, decide_eq_true_eq, Int.cast_ofNat_Int, Int.reduceLE, Int.reduceEq, Int.reduceToNat, not_true_eq_false, not_false_eq_true, Bool.true_eq_false, dSet, dSto, stS, dSetM, dMv, dAsg, gN, gT, gCons, gNil, gSubL, dPar, stosP, stoP, fConsP, dExpr, fYes, fIr, dFor, dIt, fItems, itemsOf, fApp, appV, fMt_eq, fMt0_eq, mtS_str, mtS0_str, opS_some, tyName, dSub, subV, isOw, fMut, fMut0, mutV, fExt, extV, Out.bind_ok, Out.bind_exc, Out.bind_stuck, Out.seq_nx, Out.seq_rt, Out.seq_bk, Out.seq_ct, Out.seq_exc, Out.seq_stuck, Out.back_nx, Out.back_rt, Out.back_exc, Out.turn_nx, Out.turn_rt, Out.turn_ct, Out.turn_bk, List.getElem?_cons_zero, List.getElem?_cons_succ, List.set_cons_zero, List.set_cons_succ, List.cons_append, List.nil_append, List.map_cons, List.map_nil, List.replicate, List.length_cons, List.length_nil, if_true, if_false, Bool.false_eq_true, opLen, opAdd, opSub, opIx, Sw_len, Sw_add, Sw_cut, Sw_cps, Its.grab, Its.free, Nat.zero_add, Nat.sub_zero, Nat.reduceAdd, Nat.reduceSub, leave1]
  case hs =>
    rintro pre x post hx ρ ⟨m3, m5, rfl⟩
    have hb : freeOk (pre.foldl freeStep ([[]], [[]])) = true := by
      have h2 := congrArg List.length hx
      simp only [List.length_range', List.length_append, List.length_cons] at h2
      have h3 : pre = (List.range' 0 6).take pre.length := by rw [hx]; simp
      have h4 := List.all_eq_true.mp free_ok pre.length (List.mem_range.mpr (by omega))
      rwa [← h3] at h4
    have hst : freeStep (pre.foldl freeStep ([[]], [[]])) x = ((pre.foldl freeStep ([[]], [[]])).1 ++ (pre.foldl freeStep ([[]], [[]])).2.foldl freeSt [], (pre.foldl freeStep ([[]], [[]])).2.foldl freeSt []) := rfl
    rw [hst]
    generalize pre.foldl freeStep ([[]], [[]]) = s at hb ⊢
    obtain ⟨f, l⟩ := s
    simp only [freeOk, Bool.and_eq_true, decide_eq_true_eq, List.all_eq_true] at hb
    obtain ⟨⟨b1, b2⟩, b3⟩ := hb
    refine ⟨[some (.sh (.int 6)), some (.ow false (f.map dw)), some (.ow false (l.map dw)), some (.sh (natD x)), none, m5.map .sh, none], by cases m3 <;> rfl, ?_⟩
    have e4 : dSet 4 (fLst (fNilD)) [some (.sh (.int 6)), some (.ow false (f.map dw)), some (.ow false (l.map dw)), some (.sh (natD x)), none, m5.map .sh, none] = .ok .nx [some (.sh (.int 6)), some (.ow false (f.map dw)), some (.ow false (l.map dw)), some (.sh (natD x)), some (.ow false []), m5.map .sh, none] := rfl
    suffices hh : ∃ ρ2, R (f ++ l.foldl freeSt [], l.foldl freeSt []) ρ2 ∧ (fSeq (dFor (dIt (fVar 2)) (gN 5) (fSeq (dExpr (fExt 4 (fLc (dIt (fC (.str "ab"))) (gN 6) (fBool (fIsN false (fCall 1 g__law_overlap (fCons (fBin opAdd (fVar 5) (fVar 6)) (fNil))))) (fBin opAdd (fVar 5) (fVar 6)) [6]))) (fNx))) (fSeq (dSetM 2 (fVar 4)) (fSeq (dSet 1 (fBin opAdd (fVar 1) (fVar 2))) (fNx)))) [some (.sh (.int 6)), some (.ow false (f.map dw)), some (.ow false (l.map dw)), some (.sh (natD x)), some (.ow false []), m5.map .sh, none] = .ok .nx ρ2 by
      obtain ⟨ρ2, h1, h2⟩ := hh
      refine ⟨ρ2, h1, (congrArg (fun o => Out.seq o _) e4).trans ?_⟩
      rw [Out.seq_nx]
      exact h2
    let R2 : List (List Nat) → DL.Env → Prop := fun s ρ => ∃ m5 : Option D, ρ = [some (.sh (.int 6)), some (.ow false (f.map dw)), some (.ow true (l.map dw)), some (.sh (natD x)), some (.ow false (s.map dw)), m5.map .sh, none]
    refine seq_foldOX (chk := some (2, false, l.map dw)) l dw R2 freeSt [] (ρ1 := [some (.sh (.int 6)), some (.ow false (f.map dw)), some (.ow false (l.map dw)), some (.sh (natD x)), some (.ow false []), m5.map .sh, none]) rfl ?ok ⟨m5, rfl⟩ ?hs ?hm
    case ok =>
      rintro s ρ ⟨m, rfl⟩
      exact sameL_refl _
    case hm =>
      rintro ρ3 ⟨m, rfl⟩
      have hlen := freeSt_len l []
      simp only [List.length_nil, Nat.zero_add] at hlen
      generalize l.foldl freeSt [] = l2 at hlen ⊢
      have hsz : (f.map dw).length + (l2.map dw).length ≤ sizeLine := by have := sizeL; rw [List.length_map, List.length_map]; omega
      refine ⟨[some (.sh (.int 6)), some (.ow false ((f ++ l2).map dw)), some (.ow false (l2.map dw)), some (.sh (natD x)), none, m.map .sh, none], ⟨some (natD x), m, rfl⟩, ?_⟩
      have f1 : Its.free ⟨l.map dw, some (2, false, l.map dw)⟩ [some (.sh (.int 6)), some (.ow false (f.map dw)), some (.ow true (l.map dw)), some (.sh (natD x)), some (.ow false (l2.map dw)), m.map .sh, none] = [some (.sh (.int 6)), some (.ow false (f.map dw)), some (.ow false (l.map dw)), some (.sh (natD x)), some (.ow false (l2.map dw)), m.map .sh, none] := rfl
      rw [f1]
      have f2 : dSetM 2 (fVar 4) [some (.sh (.int 6)), some (.ow false (f.map dw)), some (.ow false (l.map dw)), some (.sh (natD x)), some (.ow false (l2.map dw)), m.map .sh, none] = .ok .nx [some (.sh (.int 6)), some (.ow false (f.map dw)), some (.ow false (l2.map dw)), some (.sh (natD x)), none, m.map .sh, none] := rfl
      refine (congrArg (fun o => Out.seq o _) f2).trans ?_
      rw [Out.seq_nx]
      have f3 : fBin opAdd (fVar 1) (fVar 2) [some (.sh (.int 6)), some (.ow false (f.map dw)), some (.ow false (l2.map dw)), some (.sh (natD x)), none, m.map .sh, none] = .ok (.fr ((f ++ l2).map dw)) [some (.sh (.int 6)), some (.ow false (f.map dw)), some (.ow false (l2.map dw)), some (.sh (natD x)), none, m.map .sh, none] := by
        refine (show _ = opAdd (.list (f.map dw)) (.list (l2.map dw)) _ from rfl).trans ?_
        simp only [opAdd]
        rw [if_pos hsz, List.map_append]
      unfold fSeq dSet
      rw [f3]
      rfl
    case hs =>
      rintro pre2 w post2 hx2 ρ ⟨m, rfl⟩
      have hw : w.length ≤ 10 := b3 w (by rw [hx2]; simp)
      have hl2 := freeSt_len pre2 []
      have hl3 : pre2.length ≤ 1000 := by
        have h2 := congrArg List.length hx2
        simp only [List.length_append, List.length_cons] at h2
        have b2 : l.length ≤ 1000 := b2
        omega
      simp only [List.length_nil, Nat.zero_add] at hl2
      generalize pre2.foldl freeSt [] = s2 at hl2 ⊢
      refine ⟨[some (.sh (.int 6)), some (.ow false (f.map dw)), some (.ow true (l.map dw)), some (.sh (natD x)), some (.ow false (s2.map dw)), some (.sh (dw w)), none], by cases m <;> rfl, ?_⟩
      refine ⟨[some (.sh (.int 6)), some (.ow false (f.map dw)), some (.ow true (l.map dw)), some (.sh (natD x)), some (.ow false ((freeSt s2 w).map dw)), some (.sh (dw w)), none], ⟨some (dw w), rfl⟩, ?_⟩
      have q : fLc (dIt (fC (.str "ab"))) (gN 6) (fBool (fIsN false (fCall 1 g__law_overlap (fCons (fBin opAdd (fVar 5) (fVar 6)) (fNil))))) (fBin opAdd (fVar 5) (fVar 6)) [6] [some (.sh (.int 6)), some (.ow false (f.map dw)), some (.ow true (l.map dw)), some (.sh (natD x)), some (.ow false (s2.map dw)), some (.sh (dw w)), none] = .ok (.fr ((freeIn w).map dw)) [some (.sh (.int 6)), some (.ow false (f.map dw)), some (.ow true (l.map dw)), some (.sh (natD x)), some (.ow false (s2.map dw)), some (.sh (dw w)), none] := by
        rw [fLc_plain (ds := [97, 98].map sign) (fun d => match d with | .str y => (ovF (w ++ [y.cps.toList.headD 0])).isNone | _ => false) (fun d => match d with | .str y => dw (w ++ [y.cps.toList.headD 0]) | _ => .none) ?_ ?_ ?_ ?_]
        · unfold freeIn
          have ea : (match sign 97 with | .str y => (ovF (w ++ [y.cps.toList.headD 0])).isNone | _ => false) = (ovF (w ++ [97])).isNone := rfl
          have eb : (match sign 98 with | .str y => (ovF (w ++ [y.cps.toList.headD 0])).isNone | _ => false) = (ovF (w ++ [98])).isNone := rfl
          simp only [List.map_cons, List.map_nil, List.filter_cons, List.filter_nil, ea, eb]
          cases (ovF (w ++ [97])).isNone <;> cases (ovF (w ++ [98])).isNone <;> rfl
        · simp only [fVar, fC, fFn, fBin, fIx, fSl, rdSl, opSl, fPart, partV, fNo, fNil, fCons, dArg, argv_sh, argv_fr, argv_bo, argv_sc, argv_fn, fNilD, fConsD, frz_sh, frz_fr, rd_sh, rd_fr, rdS_sh, rdS_fr, rdS_sc, rdS_bo, rdSs_nil', rdSs_sh, rdSs_sc, Option.map_some, rd2_sh, rdI_sh, fLst, fTup, lstV, tupV, fCB, rdC, fIsi, isiV, fCall, dIf, fSeq, fRet, fRetN, fNx, fCt, fBk, leave, fTru, tru, fBool, boolV, tAnd', tOr', tNot', opMul_l, opMul_r, opFdiv_p, opMod_p, Int.reduceLT, Int.reduceNeg, Int.reduceAdd, Int.reduceSub, Int.reduceMul, vAnd_eq, vOr_eq, andV_bool, orV_bool, bind_ite, seq_ite, turn_ite, rtOf_ite, rtOf_rt, rtOf_nx, opEq_int, opNe_int, opEq_str, opNe_str, opLt_int, opGt_int, opLe_int, opGe_int, isi_int_none, isi_int_bool, isi_int_int, isi_int_str, isi_int_list, isi_int_tuple, isi_bool_none, isi_bool_bool, isi_bool_int, isi_bool_str, isi_bool_list, isi_bool_tuple, isi_str_none, isi_str_bool, isi_str_int, isi_str_str, isi_str_list, isi_str_tuple, isi_list_none, isi_list_bool, isi_list_int, isi_list_str, isi_list_list, isi_list_tuple, isi_tuple_none, isi_tuple_bool, isi_tuple_int, isi_tuple_str, isi_tuple_list, isi_tuple_tuple, vNot, vIf, fIsN, isNV, isN, fChain_eq, truD, decide_true, decide_false, Bool.not_true, Bool.not_false, decide_eq_true_eq, Int.cast_ofNat_Int, Int.reduceLE, Int.reduceEq, Int.reduceToNat, not_true_eq_false, not_false_eq_true, Bool.true_eq_false, dSet, dSto, stS, dSetM, dMv, dAsg, gN, gT, gCons, gNil, gSubL, dPar, stosP, stoP, fConsP, dExpr, fYes, fIr, dFor, dIt, fItems, itemsOf, fApp, appV, fMt_eq, fMt0_eq, mtS_str, mtS0_str, opS_some, tyName, dSub, subV, isOw, fMut, fMut0, mutV, fExt, extV, Out.bind_ok, Out.bind_exc, Out.bind_stuck, Out.seq_nx, Out.seq_rt, Out.seq_bk, Out.seq_ct, Out.seq_exc, Out.seq_stuck, Out.back_nx, Out.back_rt, Out.back_exc, Out.turn_nx, Out.turn_rt, Out.turn_ct, Out.turn_bk, List.getElem?_cons_zero, List.getElem?_cons_succ, List.set_cons_zero, List.set_cons_succ, List.cons_append, List.nil_append, List.map_cons, List.map_nil, List.replicate, List.length_cons, List.length_nil, if_true, if_false, Bool.false_eq_true, opLen, opAdd, opSub, opIx, Sw_len, Sw_add, Sw_cut, Sw_cps, Its.grab, Its.free, Nat.zero_add, Nat.sub_zero, Nat.reduceAdd, Nat.reduceSub, lit_ab]
        · rfl
        · have := sizeL; simp; omega
        · intro d hd
          obtain ⟨c, hc, rfl⟩ := List.mem_map.mp hd
          have hle : (Sw w).length + (Sw [c]).length ≤ sizeLine := by have := sizeL; simp; omega
          refine ⟨[some (.sh (.int 6)), some (.ow false (f.map dw)), some (.ow true (l.map dw)), some (.sh (natD x)), some (.ow false (s2.map dw)), some (.sh (dw w)), some (.sh (dw [c]))], rfl, rfl, ?_, ?_⟩
          · have hlen : w.length + 1 ≤ sizeLine := by have := sizeL; omega
            simp only [fVar, fC, fFn, fBin, fIx, fSl, rdSl, opSl, fPart, partV, fNo, fNil, fCons, dArg, argv_sh, argv_fr, argv_bo, argv_sc, argv_fn, fNilD, fConsD, frz_sh, frz_fr, rd_sh, rd_fr, rdS_sh, rdS_fr, rdS_sc, rdS_bo, rdSs_nil', rdSs_sh, rdSs_sc, Option.map_some, rd2_sh, rdI_sh, fLst, fTup, lstV, tupV, fCB, rdC, fIsi, isiV, fCall, dIf, fSeq, fRet, fRetN, fNx, fCt, fBk, leave, fTru, tru, fBool, boolV, tAnd', tOr', tNot', opMul_l, opMul_r, opFdiv_p, opMod_p, Int.reduceLT, Int.reduceNeg, Int.reduceAdd, Int.reduceSub, Int.reduceMul, vAnd_eq, vOr_eq, andV_bool, orV_bool, bind_ite, seq_ite, turn_ite, rtOf_ite, rtOf_rt, rtOf_nx, opEq_int, opNe_int, opEq_str, opNe_str, opLt_int, opGt_int, opLe_int, opGe_int, isi_int_none, isi_int_bool, isi_int_int, isi_int_str, isi_int_list, isi_int_tuple, isi_bool_none, isi_bool_bool, isi_bool_int, isi_bool_str, isi_bool_list, isi_bool_tuple, isi_str_none, isi_str_bool, isi_str_int, isi_str_str, isi_str_list, isi_str_tuple, isi_list_none, isi_list_bool, isi_list_int, isi_list_str, isi_list_list, isi_list_tuple, isi_tuple_none, isi_tuple_bool, isi_tuple_int, isi_tuple_str, isi_tuple_list, isi_tuple_tuple, vNot, vIf, fIsN, isNV, isN, fChain_eq, truD, decide_true, decide_false, Bool.not_true, Bool.not_false, decide_eq_true_eq, Int.cast_ofNat_Int, Int.reduceLE, Int.reduceEq, Int.reduceToNat, not_true_eq_false, not_false_eq_true, Bool.true_eq_false, dSet, dSto, stS, dSetM, dMv, dAsg, gN, gT, gCons, gNil, gSubL, dPar, stosP, stoP, fConsP, dExpr, fYes, fIr, dFor, dIt, fItems, itemsOf, fApp, appV, fMt_eq, fMt0_eq, mtS_str, mtS0_str, opS_some, tyName, dSub, subV, isOw, fMut, fMut0, mutV, fExt, extV, Out.bind_ok, Out.bind_exc, Out.bind_stuck, Out.seq_nx, Out.seq_rt, Out.seq_bk, Out.seq_ct, Out.seq_exc, Out.seq_stuck, Out.back_nx, Out.back_rt, Out.back_exc, Out.turn_nx, Out.turn_rt, Out.turn_ct, Out.turn_bk, List.getElem?_cons_zero, List.getElem?_cons_succ, List.set_cons_zero, List.set_cons_succ, List.cons_append, List.nil_append, List.map_cons, List.map_nil, List.replicate, List.length_cons, List.length_nil, if_true, if_false, Bool.false_eq_true, opLen, opAdd, opSub, opIx, Sw_len, Sw_add, Sw_cut, Sw_cps, Its.grab, Its.free, Nat.zero_add, Nat.sub_zero, Nat.reduceAdd, Nat.reduceSub, hlen, call1 (law_overlap_eq (w := w ++ [c]) (by simp; omega))]
            show _ = Out.ok (ovF (w ++ [c])).isNone _
            cases ovF (w ++ [c]) <;> rfl
          · intro _
            have hlen : w.length + 1 ≤ sizeLine := by have := sizeL; omega
            simp only [fVar, fC, fFn, fBin, fIx, fSl, rdSl, opSl, fPart, partV, fNo, fNil, fCons, dArg, argv_sh, argv_fr, argv_bo, argv_sc, argv_fn, fNilD, fConsD, frz_sh, frz_fr, rd_sh, rd_fr, rdS_sh, rdS_fr, rdS_sc, rdS_bo, rdSs_nil', rdSs_sh, rdSs_sc, Option.map_some, rd2_sh, rdI_sh, fLst, fTup, lstV, tupV, fCB, rdC, fIsi, isiV, fCall, dIf, fSeq, fRet, fRetN, fNx, fCt, fBk, leave, fTru, tru, fBool, boolV, tAnd', tOr', tNot', opMul_l, opMul_r, opFdiv_p, opMod_p, Int.reduceLT, Int.reduceNeg, Int.reduceAdd, Int.reduceSub, Int.reduceMul, vAnd_eq, vOr_eq, andV_bool, orV_bool, bind_ite, seq_ite, turn_ite, rtOf_ite, rtOf_rt, rtOf_nx, opEq_int, opNe_int, opEq_str, opNe_str, opLt_int, opGt_int, opLe_int, opGe_int, isi_int_none, isi_int_bool, isi_int_int, isi_int_str, isi_int_list, isi_int_tuple, isi_bool_none, isi_bool_bool, isi_bool_int, isi_bool_str, isi_bool_list, isi_bool_tuple, isi_str_none, isi_str_bool, isi_str_int, isi_str_str, isi_str_list, isi_str_tuple, isi_list_none, isi_list_bool, isi_list_int, isi_list_str, isi_list_list, isi_list_tuple, isi_tuple_none, isi_tuple_bool, isi_tuple_int, isi_tuple_str, isi_tuple_list, isi_tuple_tuple, vNot, vIf, fIsN, isNV, isN, fChain_eq, truD, decide_true, decide_false, Bool.not_true, Bool.not_false, decide_eq_true_eq, Int.cast_ofNat_Int, Int.reduceLE, Int.reduceEq, Int.reduceToNat, not_true_eq_false, not_false_eq_true, Bool.true_eq_false, dSet, dSto, stS, dSetM, dMv, dAsg, gN, gT, gCons, gNil, gSubL, dPar, stosP, stoP, fConsP, dExpr, fYes, fIr, dFor, dIt, fItems, itemsOf, fApp, appV, fMt_eq, fMt0_eq, mtS_str, mtS0_str, opS_some, tyName, dSub, subV, isOw, fMut, fMut0, mutV, fExt, extV, Out.bind_ok, Out.bind_exc, Out.bind_stuck, Out.seq_nx, Out.seq_rt, Out.seq_bk, Out.seq_ct, Out.seq_exc, Out.seq_stuck, Out.back_nx, Out.back_rt, Out.back_exc, Out.turn_nx, Out.turn_rt, Out.turn_ct, Out.turn_bk, List.getElem?_cons_zero, List.getElem?_cons_succ, List.set_cons_zero, List.set_cons_succ, List.cons_append, List.nil_append, List.map_cons, List.map_nil, List.replicate, List.length_cons, List.length_nil, if_true, if_false, Bool.false_eq_true, opLen, opAdd, opSub, opIx, Sw_len, Sw_add, Sw_cut, Sw_cps, Its.grab, Its.free, Nat.zero_add, Nat.sub_zero, Nat.reduceAdd, Nat.reduceSub, hlen]
            rfl
      have hsz : (s2.map dw).length + ((freeIn w).map dw).length ≤ sizeLine := by
        have h2 : (freeIn w).length ≤ 2 := by unfold freeIn; exact Nat.le_trans (List.length_filter_le _ _) (by simp)
        have := sizeL
        rw [List.length_map, List.length_map]; omega
      generalize fLc (dIt (fC (.str "ab"))) (gN 6) (fBool (fIsN false (fCall 1 g__law_overlap (fCons (fBin opAdd (fVar 5) (fVar 6)) (fNil))))) (fBin opAdd (fVar 5) (fVar 6)) [6] = F at q ⊢
      simp only [fVar, fC, fFn, fBin, fIx, fSl, rdSl, opSl, fPart, partV, fNo, fNil, fCons, dArg, argv_sh, argv_fr, argv_bo, argv_sc, argv_fn, fNilD, fConsD, frz_sh, frz_fr, rd_sh, rd_fr, rdS_sh, rdS_fr, rdS_sc, rdS_bo, rdSs_nil', rdSs_sh, rdSs_sc, Option.map_some, rd2_sh, rdI_sh, fLst, fTup, lstV, tupV, fCB, rdC, fIsi, isiV, fCall, dIf, fSeq, fRet, fRetN, fNx, fCt, fBk, leave, fTru, tru, fBool, boolV, tAnd', tOr', tNot', opMul_l, opMul_r, opFdiv_p, opMod_p, Int.reduceLT, Int.reduceNeg, Int.reduceAdd, Int.reduceSub, Int.reduceMul, vAnd_eq, vOr_eq, andV_bool, orV_bool, bind_ite, seq_ite, turn_ite, rtOf_ite, rtOf_rt, rtOf_nx, opEq_int, opNe_int, opEq_str, opNe_str, opLt_int, opGt_int, opLe_int, opGe_int, isi_int_none, isi_int_bool, isi_int_int, isi_int_str, isi_int_list, isi_int_tuple, isi_bool_none, isi_bool_bool, isi_bool_int, isi_bool_str, isi_bool_list, isi_bool_tuple, isi_str_none, isi_str_bool, isi_str_int, isi_str_str, isi_str_list, isi_str_tuple, isi_list_none, isi_list_bool, isi_list_int, isi_list_str, isi_list_list, isi_list_tuple, isi_tuple_none, isi_tuple_bool, isi_tuple_int, isi_tuple_str, isi_tuple_list, isi_tuple_tuple, vNot, vIf, fIsN, isNV, isN, fChain_eq, truD, decide_true, decide_false, Bool.not_true, Bool.not_false, decide_eq_true_eq, Int.cast_ofNat_Int, Int.reduceLE, Int.reduceEq, Int.reduceToNat, not_true_eq_false, not_false_eq_true, Bool.true_eq_false, dSet, dSto, stS, dSetM, dMv, dAsg, gN, gT, gCons, gNil, gSubL, dPar, stosP, stoP, fConsP, dExpr, fYes, fIr, dFor, dIt, fItems, itemsOf, fApp, appV, fMt_eq, fMt0_eq, mtS_str, mtS0_str, opS_some, tyName, dSub, subV, isOw, fMut, fMut0, mutV, fExt, extV, Out.bind_ok, Out.bind_exc, Out.bind_stuck, Out.seq_nx, Out.seq_rt, Out.seq_bk, Out.seq_ct, Out.seq_exc, Out.seq_stuck, Out.back_nx, Out.back_rt, Out.back_exc, Out.turn_nx, Out.turn_rt, Out.turn_ct, Out.turn_bk, List.getElem?_cons_zero, List.getElem?_cons_succ, List.set_cons_zero, List.set_cons_succ, List.cons_append, List.nil_append, List.map_cons, List.map_nil, List.replicate, List.length_cons, List.length_nil, if_true, if_false, Bool.false_eq_true, opLen, opAdd, opSub, opIx, Sw_len, Sw_add, Sw_cut, Sw_cps, Its.grab, Its.free, Nat.zero_add, Nat.sub_zero, Nat.reduceAdd, Nat.reduceSub, isOw4, q, extV4, hsz]
      unfold freeSt
      rw [List.map_append]
theorem free_lens : ((freeN 6).all fun w => decide (w.length ≤ 10) && w.all fun c => decide (c = 97 ∨ c = 98)) = true := by decide +kernel
theorem free_cnt : (freeN 6).length ≤ 1000 := by decide +kernel
end K87
namespace K87
open PySem DL
theorem free_rows : (rowsP.all fun r => (freeN 6).all fun w => (ovF (img r.1 r.2 w)).isNone) = true := by decide +kernel
end K87
namespace K87
open PySem DL
/-! ### one substitution of the law -/
theorem eqv_rows (a b u v : List Nat) : PyData.eqv (imD a b) (imD u v) = (decide (a = u) && decide (b = v)) := by
  unfold imD
  have k : ∀ x y : List Nat, (Sw x == Sw y) = decide (x = y) := fun x y => by
    rw [← eqv_dw]; simp only [PyData.eqv]
  simp only [PyData.eqv, PyData.eqvAll, k, decide_true, Bool.true_and, Bool.and_true]
theorem imD_depth (u v : List Nat) : (imD u v).depth ≤ 60 := by
  simp [imD, PyData.depth, PyData.depthAll]
theorem in_rows (u v : List Nat) (ρ : DL.Env) : opIn false (imD u v) (.list (rowsP.map rowD)) ρ = .ok (.sh (.bool (isRow u v))) ρ := by
  have e : opIn false (imD u v) (.list (rowsP.map rowD)) ρ = if min (PyData.depthAll (rowsP.map rowD)) (imD u v).depth ≤ 60 then .ok (.sh (.bool (false != (rowsP.map rowD).any fun y => PyData.eqv y (imD u v)))) ρ else .stuck := rfl
  rw [e, if_pos (Nat.le_trans (Nat.min_le_right _ _) (imD_depth u v)), bne_false_id, List.any_map]
  congr 4
  funext r
  exact eqv_rows r.1 r.2 u v
theorem fit_dw {w : List Nat} (h : AB w) : fitD (dw w) = true := by
  simp only [fitD, Sw_cps, List.all_eq_true]
  intro c hc
  rcases h c hc with rfl | rfl <;> rfl
theorem fit_im {u v : List Nat} (h : Ok u v) : repOk (imD u v) = true := by
  obtain ⟨h1, h2, h3, h4, h5, h6⟩ := h
  refine repOk_of ?_ ?_ (imD_depth u v)
  · have e : fitD IMG = true := by decide +kernel
    simp only [imD, fitD, fitL, Bool.and_true, Bool.and_eq_true]
    exact ⟨e, fit_dw h1, fit_dw h2⟩
  · simp only [imD, wgt, wgtL, Sw_len, List.length_cons, List.length_nil]
    omega
theorem ovF_lt {w : List Nat} {a p : Nat} (h : ovF w = some (a, p)) : a < w.length ∧ p ≤ w.length := by
  unfold ovF at h
  obtain ⟨x, hx, h⟩ := List.exists_of_findSome?_eq_some h
  obtain ⟨y, hy, h⟩ := List.exists_of_findSome?_eq_some h
  rw [List.mem_range'] at hx hy
  obtain ⟨i, hi, rfl⟩ := hx
  obtain ⟨j, hj, rfl⟩ := hy
  split at h
  · cases h; omega
  · cases h
theorem fit_told {w : List Nat} (hl : w.length ≤ 1000) (k : Bool) : repOk (.list [.bool k, optD (ovF w), .bool k]) = true := by
  cases h : ovF w with
  | none => cases k <;> decide +kernel
  | some r =>
    obtain ⟨a, p⟩ := r
    have := ovF_lt h
    refine repOk_of ?_ ?_ ?_
    · simp only [optD, pairD, fitD, fitL, Bool.and_true, Bool.true_and, Bool.and_eq_true, decide_eq_true_eq]
      have hk : ∀ n : Nat, n ≤ 1000 → ((n : Int).natAbs).log2 < 1920 := fun n hn => by
        have e : (n : Int).natAbs = n := by omega
        rw [e]
        have := Nat.log2_le_self n
        omega
      exact ⟨hk a (by omega), hk p (by omega)⟩
    · simp only [optD, pairD, wgt, wgtL]; omega
    · simp [optD, pairD, PyData.depth, PyData.depthAll]
theorem fit_says (k : Bool) : repOk (.list [.bool k, .bool k]) = true := by cases k <;> decide +kernel
/-- both looks say the same of a value -/
def Same (u v : List Nat) (x : D) : Prop := ∃ b : Bool, Gv g__law_says [dw (txt u v), x] (.sh (.bool b)) ∧ Gv g_is_overlap_paper [imD u v, x] (.sh (.bool b))
theorem same_pair {u v : List Nat} (h : Ok u v) (a p : Nat) : Same u v (.tuple [natD a, natD p]) := ⟨_, law_says_pair _ a p, paper_pair h a p⟩
theorem same_due {u v : List Nat} (h : Ok u v) : Same u v (optD (ovF (txt u v))) := by
  cases ovF (txt u v) with
  | none => exact ⟨false, law_says_none _, paper_none h⟩
  | some r => exact same_pair h r.1 r.2
theorem isN_opt (o : Option (Nat × Nat)) : isN (optD o) = o.isNone := by cases o <;> rfl
theorem rd_bo5 (a b c d e : Option SV) (k : Bool) (ds : List D) (ρ : DL.Env) : rdSs [.bo 5] (a :: b :: c :: d :: e :: some (.ow k ds) :: ρ) = some [.list ds] := rfl
theorem rdSs_fr1 (ds : List D) (ρ : DL.Env) : rdSs [.fr ds] ρ = some [.list ds] := rfl
theorem any_false (n : Nat) (ρ : DL.Env) : opAny [.list (List.replicate n (.bool false))] ρ = .ok (.sh (.bool false)) ρ := by
  have e : ∀ n : Nat, boolsOf (List.replicate n (.bool false : D)) = some (List.replicate n false) := by
    intro n
    induction n with
    | zero => rfl
    | succ n ih => rw [List.replicate_succ, List.replicate_succ]; simp only [boolsOf, ih, Option.map_some]
  simp only [opAny, e]
  have e2 : (List.replicate n false).any id = false := by rw [List.any_eq_false]; intro x hx; rw [(List.mem_replicate.mp hx).2]; simp
  rw [e2]
theorem map_rep {α β : Type} (b : β) : ∀ l : List α, l.map (fun _ => b) = List.replicate l.length b
  | [] => rfl
  | a :: l => by rw [List.map_cons, map_rep b l]; rfl
set_option maxHeartbeats 4000000 in
theorem law_one_right {u v : List Nat} (h : Ok u v) (hg : goodP u v = true) {ds : List D} (hp : PotL ds) : ∃ ds', PotL ds' ∧ GvP g__law_one_right ds [imD u v] (.sh (.bool true)) ds' := by
  have hT := txt_len h
  have hT1 : 0 < (txt u v).length := by
    obtain ⟨h1, h2, h3, h4, h5, h6⟩ := h
    show 0 < (u ++ _).length
    rw [List.length_append]; omega
  obtain ⟨d1, ds1, a1, a2, a3⟩ := law_draw hp (n := (txt u v).length) hT1 (by omega)
  obtain ⟨d2, ds2, b1, b2, b3⟩ := law_draw a2 (n := 5) (by omega) (by omega)
  refine ⟨ds2, b2, ?_⟩
  have hrep := fit_im h
  have hk : keepsN u v = (ovF (txt u v)).isNone ∧ (ovF (txt u v)).isNone = isRow u v := by
    unfold goodP at hg
    simp only [Bool.and_eq_true, beq_iff_eq] at hg
    exact hg
  have hkeep := keeps_eq h
  rw [hk.1] at hkeep
  have htold := fit_told hT (ovF (txt u v)).isNone
  have hlo := law_overlap_eq (w := txt u v) hT
  have hop := overlap_paper_eq h
  have hli : Gv g__law_image [imD u v, dw TT] (.sh (dw (txt u v))) := by
    obtain ⟨h1, h2, h3, h4, h5, h6⟩ := h
    exact law_image_eq u v tt_ab (by omega) (by omega) (by decide)
  have hd := same_due h
  have hz8 : 8 ≤ sizeLine := by have := sizeL; omega
  have hz3 : 3 ≤ sizeLine := by omega
  have hz2 : 2 ≤ sizeLine := by omega
  refine gvp_rt ?_
  unfold b__law_one_right
  generalize hS : (imD u v).shown = S
  have hR : ∀ ρ, opRepr [imD u v] ρ = .ok (.sh (.str S)) ρ := fun ρ => by rw [← hS]; simp only [opRepr]; rw [if_pos hrep]
  refine seq_step (fun o => rtP o = _) [some (.ow true ds), some (.sh (imD u v)), some (.sh (.str S)), some (.sh (dw (txt u v))), none, none, none, none, none, none] ?_ ?_
  · simp only [fVar, fC, fFn, fBin, fIx, fSl, rdSl, opSl, fPart, partV, fNo, fNil, fCons, dArg, argv_sh, argv_fr, argv_bo, argv_sc, argv_fn, fNilD, fConsD, frz_sh, frz_fr, rd_sh, rd_fr, rdS_sh, rdS_fr, rdS_sc, rdS_bo, rdSs_nil', rdSs_sh, rdSs_sc, Option.map_some, rd2_sh, rdI_sh, fLst, fTup, lstV, tupV, fCB, rdC, fIsi, isiV, fCall, dIf, fSeq, fRet, fRetN, fNx, fCt, fBk, leave, fTru, tru, fBool, boolV, tAnd', tOr', tNot', opMul_l, opMul_r, opFdiv_p, opMod_p, Int.reduceLT, Int.reduceNeg, Int.reduceAdd, Int.reduceSub, Int.reduceMul, vAnd_eq, vOr_eq, andV_bool, orV_bool, bind_ite, seq_ite, turn_ite, rtOf_ite, rtOf_rt, rtOf_nx, opEq_int, opNe_int, opEq_str, opNe_str, opLt_int, opGt_int, opLe_int, opGe_int, isi_int_none, isi_int_bool, isi_int_int, isi_int_str, isi_int_list, isi_int_tuple, isi_bool_none, isi_bool_bool, isi_bool_int, isi_bool_str, isi_bool_list, isi_bool_tuple, isi_str_none, isi_str_bool, isi_str_int, isi_str_str, isi_str_list, isi_str_tuple, isi_list_none, isi_list_bool, isi_list_int, isi_list_str, isi_list_list, isi_list_tuple, isi_tuple_none, isi_tuple_bool, isi_tuple_int, isi_tuple_str, isi_tuple_list, isi_tuple_tuple, vNot, vIf, fIsN, isNV, isN, fChain_eq, truD, decide_true, decide_false, Bool.not_true, Bool.not_false, decide_eq_true_eq, Int.cast_ofNat_Int, Int.reduceLE, Int.reduceEq, Int.reduceToNat, not_true_eq_false, not_false_eq_true, Bool.true_eq_false, dSet, dSto, stS, dSetM, dMv, dAsg, gN, gT, gCons, gNil, gSubL, dPar, stosP, stoP, fConsP, dExpr, fYes, fIr, dFor, dIt, fItems, itemsOf, fApp, appV, fMt_eq, fMt0_eq, mtS_str, mtS0_str, opS_some, tyName, dSub, subV, isOw, fMut, fMut0, mutV, fExt, extV, Out.bind_ok, Out.bind_exc, Out.bind_stuck, Out.seq_nx, Out.seq_rt, Out.seq_bk, Out.seq_ct, Out.seq_exc, Out.seq_stuck, Out.back_nx, Out.back_rt, Out.back_exc, Out.turn_nx, Out.turn_rt, Out.turn_ct, Out.turn_bk, List.getElem?_cons_zero, List.getElem?_cons_succ, List.set_cons_zero, List.set_cons_succ, List.cons_append, List.nil_append, List.map_cons, List.map_nil, List.replicate, List.length_cons, List.length_nil, if_true, if_false, Bool.false_eq_true, opLen, opAdd, opSub, opIx, Sw_len, Sw_add, Sw_cut, Sw_cps, Its.grab, Its.free, Nat.zero_add, Nat.sub_zero, Nat.reduceAdd, Nat.reduceSub, lit_test, call2 hli, hR]
  refine seq_step (fun o => rtP o = _) [some (.ow true ds), some (.sh (imD u v)), some (.sh (.str S)), some (.sh (dw (txt u v))), some (.sh (optD (ovF (txt u v)))), none, none, none, none, none] ?_ ?_
  · simp only [fVar, fC, fFn, fBin, fIx, fSl, rdSl, opSl, fPart, partV, fNo, fNil, fCons, dArg, argv_sh, argv_fr, argv_bo, argv_sc, argv_fn, fNilD, fConsD, frz_sh, frz_fr, rd_sh, rd_fr, rdS_sh, rdS_fr, rdS_sc, rdS_bo, rdSs_nil', rdSs_sh, rdSs_sc, Option.map_some, rd2_sh, rdI_sh, fLst, fTup, lstV, tupV, fCB, rdC, fIsi, isiV, fCall, dIf, fSeq, fRet, fRetN, fNx, fCt, fBk, leave, fTru, tru, fBool, boolV, tAnd', tOr', tNot', opMul_l, opMul_r, opFdiv_p, opMod_p, Int.reduceLT, Int.reduceNeg, Int.reduceAdd, Int.reduceSub, Int.reduceMul, vAnd_eq, vOr_eq, andV_bool, orV_bool, bind_ite, seq_ite, turn_ite, rtOf_ite, rtOf_rt, rtOf_nx, opEq_int, opNe_int, opEq_str, opNe_str, opLt_int, opGt_int, opLe_int, opGe_int, isi_int_none, isi_int_bool, isi_int_int, isi_int_str, isi_int_list, isi_int_tuple, isi_bool_none, isi_bool_bool, isi_bool_int, isi_bool_str, isi_bool_list, isi_bool_tuple, isi_str_none, isi_str_bool, isi_str_int, isi_str_str, isi_str_list, isi_str_tuple, isi_list_none, isi_list_bool, isi_list_int, isi_list_str, isi_list_list, isi_list_tuple, isi_tuple_none, isi_tuple_bool, isi_tuple_int, isi_tuple_str, isi_tuple_list, isi_tuple_tuple, vNot, vIf, fIsN, isNV, isN, fChain_eq, truD, decide_true, decide_false, Bool.not_true, Bool.not_false, decide_eq_true_eq, Int.cast_ofNat_Int, Int.reduceLE, Int.reduceEq, Int.reduceToNat, not_true_eq_false, not_false_eq_true, Bool.true_eq_false, dSet, dSto, stS, dSetM, dMv, dAsg, gN, gT, gCons, gNil, gSubL, dPar, stosP, stoP, fConsP, dExpr, fYes, fIr, dFor, dIt, fItems, itemsOf, fApp, appV, fMt_eq, fMt0_eq, mtS_str, mtS0_str, opS_some, tyName, dSub, subV, isOw, fMut, fMut0, mutV, fExt, extV, Out.bind_ok, Out.bind_exc, Out.bind_stuck, Out.seq_nx, Out.seq_rt, Out.seq_bk, Out.seq_ct, Out.seq_exc, Out.seq_stuck, Out.back_nx, Out.back_rt, Out.back_exc, Out.turn_nx, Out.turn_rt, Out.turn_ct, Out.turn_bk, List.getElem?_cons_zero, List.getElem?_cons_succ, List.set_cons_zero, List.set_cons_succ, List.cons_append, List.nil_append, List.map_cons, List.map_nil, List.replicate, List.length_cons, List.length_nil, if_true, if_false, Bool.false_eq_true, opLen, opAdd, opSub, opIx, Sw_len, Sw_add, Sw_cut, Sw_cps, Its.grab, Its.free, Nat.zero_add, Nat.sub_zero, Nat.reduceAdd, Nat.reduceSub, call1 hlo]
  refine seq_step (fun o => rtP o = _) [some (.ow true ds), some (.sh (imD u v)), some (.sh (.str S)), some (.sh (dw (txt u v))), some (.sh (optD (ovF (txt u v)))), some (.ow false [.bool (ovF (txt u v)).isNone, optD (ovF (txt u v)), .bool (ovF (txt u v)).isNone]), none, none, none, none] ?_ ?_
  · simp only [fVar, fC, fFn, fBin, fIx, fSl, rdSl, opSl, fPart, partV, fNo, fNil, fCons, dArg, argv_sh, argv_fr, argv_bo, argv_sc, argv_fn, fNilD, fConsD, frz_sh, frz_fr, rd_sh, rd_fr, rdS_sh, rdS_fr, rdS_sc, rdS_bo, rdSs_nil', rdSs_sh, rdSs_sc, Option.map_some, rd2_sh, rdI_sh, fLst, fTup, lstV, tupV, fCB, rdC, fIsi, isiV, fCall, dIf, fSeq, fRet, fRetN, fNx, fCt, fBk, leave, fTru, tru, fBool, boolV, tAnd', tOr', tNot', opMul_l, opMul_r, opFdiv_p, opMod_p, Int.reduceLT, Int.reduceNeg, Int.reduceAdd, Int.reduceSub, Int.reduceMul, vAnd_eq, vOr_eq, andV_bool, orV_bool, bind_ite, seq_ite, turn_ite, rtOf_ite, rtOf_rt, rtOf_nx, opEq_int, opNe_int, opEq_str, opNe_str, opLt_int, opGt_int, opLe_int, opGe_int, isi_int_none, isi_int_bool, isi_int_int, isi_int_str, isi_int_list, isi_int_tuple, isi_bool_none, isi_bool_bool, isi_bool_int, isi_bool_str, isi_bool_list, isi_bool_tuple, isi_str_none, isi_str_bool, isi_str_int, isi_str_str, isi_str_list, isi_str_tuple, isi_list_none, isi_list_bool, isi_list_int, isi_list_str, isi_list_list, isi_list_tuple, isi_tuple_none, isi_tuple_bool, isi_tuple_int, isi_tuple_str, isi_tuple_list, isi_tuple_tuple, vNot, vIf, fIsN, isNV, isN, fChain_eq, truD, decide_true, decide_false, Bool.not_true, Bool.not_false, decide_eq_true_eq, Int.cast_ofNat_Int, Int.reduceLE, Int.reduceEq, Int.reduceToNat, not_true_eq_false, not_false_eq_true, Bool.true_eq_false, dSet, dSto, stS, dSetM, dMv, dAsg, gN, gT, gCons, gNil, gSubL, dPar, stosP, stoP, fConsP, dExpr, fYes, fIr, dFor, dIt, fItems, itemsOf, fApp, appV, fMt_eq, fMt0_eq, mtS_str, mtS0_str, opS_some, tyName, dSub, subV, isOw, fMut, fMut0, mutV, fExt, extV, Out.bind_ok, Out.bind_exc, Out.bind_stuck, Out.seq_nx, Out.seq_rt, Out.seq_bk, Out.seq_ct, Out.seq_exc, Out.seq_stuck, Out.back_nx, Out.back_rt, Out.back_exc, Out.turn_nx, Out.turn_rt, Out.turn_ct, Out.turn_bk, List.getElem?_cons_zero, List.getElem?_cons_succ, List.set_cons_zero, List.set_cons_succ, List.cons_append, List.nil_append, List.map_cons, List.map_nil, List.replicate, List.length_cons, List.length_nil, if_true, if_false, Bool.false_eq_true, opLen, opAdd, opSub, opIx, Sw_len, Sw_add, Sw_cut, Sw_cps, Its.grab, Its.free, Nat.zero_add, Nat.sub_zero, Nat.reduceAdd, Nat.reduceSub, fCallK, permL_one, call1 hkeep, call1 hop, hz3]
  generalize hY : ovF (txt u v) = Y at *
  refine seq_step (fun o => rtP o = _) [some (.ow true ds), some (.sh (imD u v)), some (.sh (.str S)), some (.sh (dw (txt u v))), some (.sh (optD Y)), some (.ow false [.bool Y.isNone, optD Y, .bool Y.isNone]), none, none, none, none] ?_ ?_
  · have hRt : ∀ ρ, opRepr [.list [.bool Y.isNone, optD Y, .bool Y.isNone]] ρ = .ok (.sh (.str (PyData.list [.bool Y.isNone, optD Y, .bool Y.isNone]).shown)) ρ := fun ρ => by simp only [opRepr]; rw [if_pos htold]
    generalize (PyData.list [.bool Y.isNone, optD Y, .bool Y.isNone]).shown = S2 at hRt
    have hrows : ∀ ρ, dCallN 0 g__law_rows [] ρ = .ok (.fr (rowsP.map rowD)) ρ := fun ρ => gv_call (as := []) law_rows_eq (by intro _ h; cases h) ρ
    have hb : ∀ ρ, opNe (.bool Y.isNone) (.bool (isRow u v)) ρ = .ok (.sh (.bool false)) ρ := fun ρ => by rw [opNe_bool, hk.2]; simp
    simp only [fVar, fC, fFn, fBin, fIx, fSl, rdSl, opSl, fPart, partV, fNo, fNil, fCons, dArg, argv_sh, argv_fr, argv_bo, argv_sc, argv_fn, fNilD, fConsD, frz_sh, frz_fr, rd_sh, rd_fr, rdS_sh, rdS_fr, rdS_sc, rdS_bo, rdSs_nil', rdSs_sh, rdSs_sc, Option.map_some, rd2_sh, rdI_sh, fLst, fTup, lstV, tupV, fCB, rdC, fIsi, isiV, fCall, dIf, fSeq, fRet, fRetN, fNx, fCt, fBk, leave, fTru, tru, fBool, boolV, tAnd', tOr', tNot', opMul_l, opMul_r, opFdiv_p, opMod_p, Int.reduceLT, Int.reduceNeg, Int.reduceAdd, Int.reduceSub, Int.reduceMul, vAnd_eq, vOr_eq, andV_bool, orV_bool, bind_ite, seq_ite, turn_ite, rtOf_ite, rtOf_rt, rtOf_nx, opEq_int, opNe_int, opEq_str, opNe_str, opLt_int, opGt_int, opLe_int, opGe_int, isi_int_none, isi_int_bool, isi_int_int, isi_int_str, isi_int_list, isi_int_tuple, isi_bool_none, isi_bool_bool, isi_bool_int, isi_bool_str, isi_bool_list, isi_bool_tuple, isi_str_none, isi_str_bool, isi_str_int, isi_str_str, isi_str_list, isi_str_tuple, isi_list_none, isi_list_bool, isi_list_int, isi_list_str, isi_list_list, isi_list_tuple, isi_tuple_none, isi_tuple_bool, isi_tuple_int, isi_tuple_str, isi_tuple_list, isi_tuple_tuple, vNot, vIf, fIsN, isNV, fChain_eq, truD, decide_true, decide_false, Bool.not_true, Bool.not_false, decide_eq_true_eq, Int.cast_ofNat_Int, Int.reduceLE, Int.reduceEq, Int.reduceToNat, not_true_eq_false, not_false_eq_true, Bool.true_eq_false, dSet, dSto, stS, dSetM, dMv, dAsg, gN, gT, gCons, gNil, gSubL, dPar, stosP, stoP, fConsP, dExpr, fYes, fIr, dFor, dIt, fItems, itemsOf, fApp, appV, fMt_eq, fMt0_eq, mtS_str, mtS0_str, opS_some, tyName, dSub, subV, isOw, fMut, fMut0, mutV, fExt, extV, Out.bind_ok, Out.bind_exc, Out.bind_stuck, Out.seq_nx, Out.seq_rt, Out.seq_bk, Out.seq_ct, Out.seq_exc, Out.seq_stuck, Out.back_nx, Out.back_rt, Out.back_exc, Out.turn_nx, Out.turn_rt, Out.turn_ct, Out.turn_bk, List.getElem?_cons_zero, List.getElem?_cons_succ, List.set_cons_zero, List.set_cons_succ, List.cons_append, List.nil_append, List.map_cons, List.map_nil, List.replicate, List.length_cons, List.length_nil, if_true, if_false, Bool.false_eq_true, opLen, opAdd, opSub, opIx, Sw_len, Sw_add, Sw_cut, Sw_cps, Its.grab, Its.free, Nat.zero_add, Nat.sub_zero, Nat.reduceAdd, Nat.reduceSub, ar_bo, rd_bo5, hRt, isN_opt, Bool.false_bne, hz3, rdSs_fr1, opNe_same_str, hrows, rd2_shfr, in_rows, hb]
  refine seq_step (fun o => rtP o = _) [some (.ow true ds), some (.sh (imD u v)), some (.sh (.str S)), some (.sh (dw (txt u v))), some (.sh (optD Y)), some (.ow false [.bool Y.isNone, optD Y, .bool Y.isNone]), none, none, none, none] ?_ ?_
  · cases hYc : Y with
    | some r => rfl
    | none =>
      have hrow : isRow u v = true := by rw [← hk.2, hYc]; rfl
      have hfree : ∀ w ∈ freeN 6, ovF (img u v w) = none := by
        unfold isRow at hrow
        obtain ⟨r, hr, e⟩ := List.any_eq_true.mp hrow
        unfold eqP at e
        simp only [Bool.and_eq_true, decide_eq_true_eq] at e
        obtain ⟨e1, e2⟩ := e
        have h1 := List.all_eq_true.mp free_rows r hr
        intro w hw
        have h2 := List.all_eq_true.mp h1 w hw
        rw [e1, e2] at h2
        simpa using h2
      have q : fLc (dIt (fCall 1 g__law_free (fCons (fC (.int 6)) (fNil)))) (gN 9) (fYes) (fIsN true (fCall 1 g__law_overlap (fCons (fCall 2 g__law_image (fCons (fVar 1) (fCons (fVar 9) (fNil)))) (fNil)))) [9] [some (.ow true ds), some (.sh (imD u v)), some (.sh (.str S)), some (.sh (dw (txt u v))), some (.sh .none), some (.ow false [.bool true, .none, .bool true]), none, none, none, none] = .ok (.fr (List.replicate (freeN 6).length (.bool false))) [some (.ow true ds), some (.sh (imD u v)), some (.sh (.str S)), some (.sh (dw (txt u v))), some (.sh .none), some (.ow false [.bool true, .none, .bool true]), none, none, none, none] := by
        rw [fLc_map (ds := (freeN 6).map dw) (fun d => .bool false) ?_ ?_ ?_ ?_]
        · rw [List.map_map]
          exact congrArg (fun z => Out.ok (EV.fr z) _) (map_rep (PyData.bool false) (freeN 6))
        · simp only [fVar, fC, fFn, fBin, fIx, fSl, rdSl, opSl, fPart, partV, fNo, fNil, fCons, dArg, argv_sh, argv_fr, argv_bo, argv_sc, argv_fn, fNilD, fConsD, frz_sh, frz_fr, rd_sh, rd_fr, rdS_sh, rdS_fr, rdS_sc, rdS_bo, rdSs_nil', rdSs_sh, rdSs_sc, Option.map_some, rd2_sh, rdI_sh, fLst, fTup, lstV, tupV, fCB, rdC, fIsi, isiV, fCall, dIf, fSeq, fRet, fRetN, fNx, fCt, fBk, leave, fTru, tru, fBool, boolV, tAnd', tOr', tNot', opMul_l, opMul_r, opFdiv_p, opMod_p, Int.reduceLT, Int.reduceNeg, Int.reduceAdd, Int.reduceSub, Int.reduceMul, vAnd_eq, vOr_eq, andV_bool, orV_bool, bind_ite, seq_ite, turn_ite, rtOf_ite, rtOf_rt, rtOf_nx, opEq_int, opNe_int, opEq_str, opNe_str, opLt_int, opGt_int, opLe_int, opGe_int, isi_int_none, isi_int_bool, isi_int_int, isi_int_str, isi_int_list, isi_int_tuple, isi_bool_none, isi_bool_bool, isi_bool_int, isi_bool_str, isi_bool_list, isi_bool_tuple, isi_str_none, isi_str_bool, isi_str_int, isi_str_str, isi_str_list, isi_str_tuple, isi_list_none, isi_list_bool, isi_list_int, isi_list_str, isi_list_list, isi_list_tuple, isi_tuple_none, isi_tuple_bool, isi_tuple_int, isi_tuple_str, isi_tuple_list, isi_tuple_tuple, vNot, vIf, fIsN, isNV, isN, fChain_eq, truD, decide_true, decide_false, Bool.not_true, Bool.not_false, decide_eq_true_eq, Int.cast_ofNat_Int, Int.reduceLE, Int.reduceEq, Int.reduceToNat, not_true_eq_false, not_false_eq_true, Bool.true_eq_false, dSet, dSto, stS, dSetM, dMv, dAsg, gN, gT, gCons, gNil, gSubL, dPar, stosP, stoP, fConsP, dExpr, fYes, fIr, dFor, dIt, fItems, itemsOf, fApp, appV, fMt_eq, fMt0_eq, mtS_str, mtS0_str, opS_some, tyName, dSub, subV, isOw, fMut, fMut0, mutV, fExt, extV, Out.bind_ok, Out.bind_exc, Out.bind_stuck, Out.seq_nx, Out.seq_rt, Out.seq_bk, Out.seq_ct, Out.seq_exc, Out.seq_stuck, Out.back_nx, Out.back_rt, Out.back_exc, Out.turn_nx, Out.turn_rt, Out.turn_ct, Out.turn_bk, List.getElem?_cons_zero, List.getElem?_cons_succ, List.set_cons_zero, List.set_cons_succ, List.cons_append, List.nil_append, List.map_cons, List.map_nil, List.replicate, List.length_cons, List.length_nil, if_true, if_false, Bool.false_eq_true, opLen, opAdd, opSub, opIx, Sw_len, Sw_add, Sw_cut, Sw_cps, Its.grab, Its.free, Nat.zero_add, Nat.sub_zero, Nat.reduceAdd, Nat.reduceSub, call1 law_free_eq]
        · rfl
        · have := sizeL; have := free_cnt; rw [List.length_map]; omega
        · intro d hd
          obtain ⟨w, hw, rfl⟩ := List.mem_map.mp hd
          have hwl := List.all_eq_true.mp free_lens w hw
          simp only [Bool.and_eq_true, decide_eq_true_eq, List.all_eq_true] at hwl
          have hli2 : Gv g__law_image [imD u v, dw w] (.sh (dw (img u v w))) := by
            obtain ⟨h1, h2, h3, h4, h5, h6⟩ := h
            exact law_image_eq u v hwl.2 (by omega) (by omega) (by omega)
          have hil : (img u v w).length ≤ 1000 := by
            obtain ⟨h1, h2, h3, h4, h5, h6⟩ := h
            have := img_len (u := u) (v := v) (by omega) (by omega) w
            omega
          have hlo2 := law_overlap_eq hil
          rw [hfree w hw] at hlo2
          refine ⟨[some (.ow true ds), some (.sh (imD u v)), some (.sh (.str S)), some (.sh (dw (txt u v))), some (.sh .none), some (.ow false [.bool true, .none, .bool true]), none, none, none, some (.sh (dw w))], rfl, rfl, ?_⟩
          simp only [fVar, fC, fFn, fBin, fIx, fSl, rdSl, opSl, fPart, partV, fNo, fNil, fCons, dArg, argv_sh, argv_fr, argv_bo, argv_sc, argv_fn, fNilD, fConsD, frz_sh, frz_fr, rd_sh, rd_fr, rdS_sh, rdS_fr, rdS_sc, rdS_bo, rdSs_nil', rdSs_sh, rdSs_sc, Option.map_some, rd2_sh, rdI_sh, fLst, fTup, lstV, tupV, fCB, rdC, fIsi, isiV, fCall, dIf, fSeq, fRet, fRetN, fNx, fCt, fBk, leave, fTru, tru, fBool, boolV, tAnd', tOr', tNot', opMul_l, opMul_r, opFdiv_p, opMod_p, Int.reduceLT, Int.reduceNeg, Int.reduceAdd, Int.reduceSub, Int.reduceMul, vAnd_eq, vOr_eq, andV_bool, orV_bool, bind_ite, seq_ite, turn_ite, rtOf_ite, rtOf_rt, rtOf_nx, opEq_int, opNe_int, opEq_str, opNe_str, opLt_int, opGt_int, opLe_int, opGe_int, isi_int_none, isi_int_bool, isi_int_int, isi_int_str, isi_int_list, isi_int_tuple, isi_bool_none, isi_bool_bool, isi_bool_int, isi_bool_str, isi_bool_list, isi_bool_tuple, isi_str_none, isi_str_bool, isi_str_int, isi_str_str, isi_str_list, isi_str_tuple, isi_list_none, isi_list_bool, isi_list_int, isi_list_str, isi_list_list, isi_list_tuple, isi_tuple_none, isi_tuple_bool, isi_tuple_int, isi_tuple_str, isi_tuple_list, isi_tuple_tuple, vNot, vIf, fIsN, isNV, isN, fChain_eq, truD, decide_true, decide_false, Bool.not_true, Bool.not_false, decide_eq_true_eq, Int.cast_ofNat_Int, Int.reduceLE, Int.reduceEq, Int.reduceToNat, not_true_eq_false, not_false_eq_true, Bool.true_eq_false, dSet, dSto, stS, dSetM, dMv, dAsg, gN, gT, gCons, gNil, gSubL, dPar, stosP, stoP, fConsP, dExpr, fYes, fIr, dFor, dIt, fItems, itemsOf, fApp, appV, fMt_eq, fMt0_eq, mtS_str, mtS0_str, opS_some, tyName, dSub, subV, isOw, fMut, fMut0, mutV, fExt, extV, Out.bind_ok, Out.bind_exc, Out.bind_stuck, Out.seq_nx, Out.seq_rt, Out.seq_bk, Out.seq_ct, Out.seq_exc, Out.seq_stuck, Out.back_nx, Out.back_rt, Out.back_exc, Out.turn_nx, Out.turn_rt, Out.turn_ct, Out.turn_bk, List.getElem?_cons_zero, List.getElem?_cons_succ, List.set_cons_zero, List.set_cons_succ, List.cons_append, List.nil_append, List.map_cons, List.map_nil, List.replicate, List.length_cons, List.length_nil, if_true, if_false, Bool.false_eq_true, opLen, opAdd, opSub, opIx, Sw_len, Sw_add, Sw_cut, Sw_cps, Its.grab, Its.free, Nat.zero_add, Nat.sub_zero, Nat.reduceAdd, Nat.reduceSub, call2 hli2, call1 hlo2]
          rfl
      have eY : optD none = PyData.none := rfl
      have eN : (none : Option (Nat × Nat)).isNone = true := rfl
      rw [eY, eN]
      generalize fLc (dIt (fCall 1 g__law_free (fCons (fC (.int 6)) (fNil)))) (gN 9) (fYes) (fIsN true (fCall 1 g__law_overlap (fCons (fCall 2 g__law_image (fCons (fVar 1) (fCons (fVar 9) (fNil)))) (fNil)))) [9] = F at q ⊢
      have e1 : isN .none = true := rfl
      simp only [fVar, fC, fFn, fBin, fIx, fSl, rdSl, opSl, fPart, partV, fNo, fNil, fCons, dArg, argv_sh, argv_fr, argv_bo, argv_sc, argv_fn, fNilD, fConsD, frz_sh, frz_fr, rd_sh, rd_fr, rdS_sh, rdS_fr, rdS_sc, rdS_bo, rdSs_nil', rdSs_sh, rdSs_sc, Option.map_some, rd2_sh, rdI_sh, fLst, fTup, lstV, tupV, fCB, rdC, fIsi, isiV, fCall, dIf, fSeq, fRet, fRetN, fNx, fCt, fBk, leave, fTru, tru, fBool, boolV, tAnd', tOr', tNot', opMul_l, opMul_r, opFdiv_p, opMod_p, Int.reduceLT, Int.reduceNeg, Int.reduceAdd, Int.reduceSub, Int.reduceMul, vAnd_eq, vOr_eq, andV_bool, orV_bool, bind_ite, seq_ite, turn_ite, rtOf_ite, rtOf_rt, rtOf_nx, opEq_int, opNe_int, opEq_str, opNe_str, opLt_int, opGt_int, opLe_int, opGe_int, isi_int_none, isi_int_bool, isi_int_int, isi_int_str, isi_int_list, isi_int_tuple, isi_bool_none, isi_bool_bool, isi_bool_int, isi_bool_str, isi_bool_list, isi_bool_tuple, isi_str_none, isi_str_bool, isi_str_int, isi_str_str, isi_str_list, isi_str_tuple, isi_list_none, isi_list_bool, isi_list_int, isi_list_str, isi_list_list, isi_list_tuple, isi_tuple_none, isi_tuple_bool, isi_tuple_int, isi_tuple_str, isi_tuple_list, isi_tuple_tuple, vNot, vIf, fIsN, isNV, isN, fChain_eq, truD, decide_true, decide_false, Bool.not_true, Bool.not_false, decide_eq_true_eq, Int.cast_ofNat_Int, Int.reduceLE, Int.reduceEq, Int.reduceToNat, not_true_eq_false, not_false_eq_true, Bool.true_eq_false, dSet, dSto, stS, dSetM, dMv, dAsg, gN, gT, gCons, gNil, gSubL, dPar, stosP, stoP, fConsP, dExpr, fYes, fIr, dFor, dIt, fItems, itemsOf, fApp, appV, fMt_eq, fMt0_eq, mtS_str, mtS0_str, opS_some, tyName, dSub, subV, isOw, fMut, fMut0, mutV, fExt, extV, Out.bind_ok, Out.bind_exc, Out.bind_stuck, Out.seq_nx, Out.seq_rt, Out.seq_bk, Out.seq_ct, Out.seq_exc, Out.seq_stuck, Out.back_nx, Out.back_rt, Out.back_exc, Out.turn_nx, Out.turn_rt, Out.turn_ct, Out.turn_bk, List.getElem?_cons_zero, List.getElem?_cons_succ, List.set_cons_zero, List.set_cons_succ, List.cons_append, List.nil_append, List.map_cons, List.map_nil, List.replicate, List.length_cons, List.length_nil, if_true, if_false, Bool.false_eq_true, opLen, opAdd, opSub, opIx, Sw_len, Sw_add, Sw_cut, Sw_cps, Its.grab, Its.free, Nat.zero_add, Nat.sub_zero, Nat.reduceAdd, Nat.reduceSub, e1, Bool.false_bne, q, rdSs_fr1, any_false, truD]
  let vals : List D := [optD Y, .tuple [natD d1, natD (1 + d2)], .tuple [natD 0, natD 0], .tuple [natD 0, natD (txt u v).length], .list [.int 0, .int 1], .tuple [.bool true, .int 1], .tuple [.int 0, .int 1, .int 1], .none]
  have hsame : ∀ x ∈ vals, Same u v x := by
    intro x hx
    simp only [vals, List.mem_cons, List.not_mem_nil, or_false] at hx
    rcases hx with rfl | rfl | rfl | rfl | rfl | rfl | rfl | rfl
    · exact hd
    · exact same_pair h _ _
    · exact same_pair h _ _
    · exact same_pair h _ _
    · exact ⟨false, law_says_list _ _, paper_list h _⟩
    · exact ⟨false, law_says_bool _ _ _, paper_bool h true 1⟩
    · exact ⟨false, law_says_three _ _ _ _, paper_three h _ _ _⟩
    · exact ⟨false, law_says_none _, paper_none h⟩
  refine seq_step (fun o => rtP o = _) [some (.ow true ds2), some (.sh (imD u v)), some (.sh (.str S)), some (.sh (dw (txt u v))), some (.sh (optD Y)), some (.ow false [.bool Y.isNone, optD Y, .bool Y.isNone]), some (.ow false vals), none, none, none] ?_ ?_
  · have c1 : dCallN 2 g__law_draw [.bo 0, .sh (natD (txt u v).length)] [some (.ow true ds), some (.sh (imD u v)), some (.sh (.str S)), some (.sh (dw (txt u v))), some (.sh (optD Y)), some (.ow false [.bool Y.isNone, optD Y, .bool Y.isNone]), none, none, none, none] = .ok (.sh (natD d1)) [some (.ow true ds1), some (.sh (imD u v)), some (.sh (.str S)), some (.sh (dw (txt u v))), some (.sh (optD Y)), some (.ow false [.bool Y.isNone, optD Y, .bool Y.isNone]), none, none, none, none] := callP1 a3 rfl
    have c2 : dCallN 2 g__law_draw [.bo 0, .sh (.int 5)] [some (.ow true ds1), some (.sh (imD u v)), some (.sh (.str S)), some (.sh (dw (txt u v))), some (.sh (optD Y)), some (.ow false [.bool Y.isNone, optD Y, .bool Y.isNone]), none, none, none, none] = .ok (.sh (natD d2)) [some (.ow true ds2), some (.sh (imD u v)), some (.sh (.str S)), some (.sh (dw (txt u v))), some (.sh (optD Y)), some (.ow false [.bool Y.isNone, optD Y, .bool Y.isNone]), none, none, none, none] := callP1 b3 rfl
    have e : ((1 + d2 : Nat) : Int) = 1 + d2 := by omega
    unfold natD at c1 c2
    simp only [fVar, fC, fFn, fBin, fIx, fSl, rdSl, opSl, fPart, partV, fNo, fNil, fCons, dArg, argv_sh, argv_fr, argv_bo, argv_sc, argv_fn, fNilD, fConsD, frz_sh, frz_fr, rd_sh, rd_fr, rdS_sh, rdS_fr, rdS_sc, rdS_bo, rdSs_nil', rdSs_sh, rdSs_sc, Option.map_some, rd2_sh, rdI_sh, fLst, fTup, lstV, tupV, fCB, rdC, fIsi, isiV, fCall, dIf, fSeq, fRet, fRetN, fNx, fCt, fBk, leave, fTru, tru, fBool, boolV, tAnd', tOr', tNot', opMul_l, opMul_r, opFdiv_p, opMod_p, Int.reduceLT, Int.reduceNeg, Int.reduceAdd, Int.reduceSub, Int.reduceMul, vAnd_eq, vOr_eq, andV_bool, orV_bool, bind_ite, seq_ite, turn_ite, rtOf_ite, rtOf_rt, rtOf_nx, opEq_int, opNe_int, opEq_str, opNe_str, opLt_int, opGt_int, opLe_int, opGe_int, isi_int_none, isi_int_bool, isi_int_int, isi_int_str, isi_int_list, isi_int_tuple, isi_bool_none, isi_bool_bool, isi_bool_int, isi_bool_str, isi_bool_list, isi_bool_tuple, isi_str_none, isi_str_bool, isi_str_int, isi_str_str, isi_str_list, isi_str_tuple, isi_list_none, isi_list_bool, isi_list_int, isi_list_str, isi_list_list, isi_list_tuple, isi_tuple_none, isi_tuple_bool, isi_tuple_int, isi_tuple_str, isi_tuple_list, isi_tuple_tuple, vNot, vIf, fIsN, isNV, isN, fChain_eq, truD, decide_true, decide_false, Bool.not_true, Bool.not_false, decide_eq_true_eq, Int.cast_ofNat_Int, Int.reduceLE, Int.reduceEq, Int.reduceToNat, not_true_eq_false, not_false_eq_true, Bool.true_eq_false, dSet, dSto, stS, dSetM, dMv, dAsg, gN, gT, gCons, gNil, gSubL, dPar, stosP, stoP, fConsP, dExpr, fYes, fIr, dFor, dIt, fItems, itemsOf, fApp, appV, fMt_eq, fMt0_eq, mtS_str, mtS0_str, opS_some, tyName, dSub, subV, isOw, fMut, fMut0, mutV, fExt, extV, Out.bind_ok, Out.bind_exc, Out.bind_stuck, Out.seq_nx, Out.seq_rt, Out.seq_bk, Out.seq_ct, Out.seq_exc, Out.seq_stuck, Out.back_nx, Out.back_rt, Out.back_exc, Out.turn_nx, Out.turn_rt, Out.turn_ct, Out.turn_bk, List.getElem?_cons_zero, List.getElem?_cons_succ, List.set_cons_zero, List.set_cons_succ, List.cons_append, List.nil_append, List.map_cons, List.map_nil, List.replicate, List.length_cons, List.length_nil, if_true, if_false, Bool.false_eq_true, opLen, opAdd, opSub, opIx, Sw_len, Sw_add, Sw_cut, Sw_cps, Its.grab, Its.free, Nat.zero_add, Nat.sub_zero, Nat.reduceAdd, Nat.reduceSub, ar_bo, c1, c2, hz2, hz3, hz8]
    simp only [vals, natD, e]
    rfl
  refine seq_foldO (fun o => rtP o = _) (chk := some (6, false, vals)) vals id (fun (_ : Unit) ρ => ∃ m7 m8 : Option D, ρ = [some (.ow true ds2), some (.sh (imD u v)), some (.sh (.str S)), some (.sh (dw (txt u v))), some (.sh (optD Y)), some (.ow false [.bool Y.isNone, optD Y, .bool Y.isNone]), some (.ow true vals), m7.map .sh, m8.map .sh, none]) (fun _ _ => ()) () (ρ1 := [some (.ow true ds2), some (.sh (imD u v)), some (.sh (.str S)), some (.sh (dw (txt u v))), some (.sh (optD Y)), some (.ow false [.bool Y.isNone, optD Y, .bool Y.isNone]), some (.ow false vals), none, none, none]) ?hi ?ok ⟨none, none, ?hg⟩ ?hs ?hm
  case hi => rw [List.map_id]; rfl
  case ok =>
    rintro s ρ ⟨m7, m8, rfl⟩
    exact sameL_refl _
  case hg => rw [List.map_id]; rfl
  case hm =>
    rintro ρ2 ⟨m7, m8, rfl⟩
    rw [List.map_id]
    have f1 : Its.free ⟨vals, some (6, false, vals)⟩ [some (.ow true ds2), some (.sh (imD u v)), some (.sh (.str S)), some (.sh (dw (txt u v))), some (.sh (optD Y)), some (.ow false [.bool Y.isNone, optD Y, .bool Y.isNone]), some (.ow true vals), m7.map .sh, m8.map .sh, none] = [some (.ow true ds2), some (.sh (imD u v)), some (.sh (.str S)), some (.sh (dw (txt u v))), some (.sh (optD Y)), some (.ow false [.bool Y.isNone, optD Y, .bool Y.isNone]), some (.ow false vals), m7.map .sh, m8.map .sh, none] := rfl
    rw [f1]
    simp only [fVar, fC, fFn, fBin, fIx, fSl, rdSl, opSl, fPart, partV, fNo, fNil, fCons, dArg, argv_sh, argv_fr, argv_bo, argv_sc, argv_fn, fNilD, fConsD, frz_sh, frz_fr, rd_sh, rd_fr, rdS_sh, rdS_fr, rdS_sc, rdS_bo, rdSs_nil', rdSs_sh, rdSs_sc, Option.map_some, rd2_sh, rdI_sh, fLst, fTup, lstV, tupV, fCB, rdC, fIsi, isiV, fCall, dIf, fSeq, fRet, fRetN, fNx, fCt, fBk, leave, fTru, tru, fBool, boolV, tAnd', tOr', tNot', opMul_l, opMul_r, opFdiv_p, opMod_p, Int.reduceLT, Int.reduceNeg, Int.reduceAdd, Int.reduceSub, Int.reduceMul, vAnd_eq, vOr_eq, andV_bool, orV_bool, bind_ite, seq_ite, turn_ite, rtOf_ite, rtOf_rt, rtOf_nx, opEq_int, opNe_int, opEq_str, opNe_str, opLt_int, opGt_int, opLe_int, opGe_int, isi_int_none, isi_int_bool, isi_int_int, isi_int_str, isi_int_list, isi_int_tuple, isi_bool_none, isi_bool_bool, isi_bool_int, isi_bool_str, isi_bool_list, isi_bool_tuple, isi_str_none, isi_str_bool, isi_str_int, isi_str_str, isi_str_list, isi_str_tuple, isi_list_none, isi_list_bool, isi_list_int, isi_list_str, isi_list_list, isi_list_tuple, isi_tuple_none, isi_tuple_bool, isi_tuple_int, isi_tuple_str, isi_tuple_list, isi_tuple_tuple, vNot, vIf, fIsN, isNV, isN, fChain_eq, truD, decide_true, decide_false, Bool.not_true, Bool.not_false, decide_eq_true_eq, Int.cast_ofNat_Int, Int.reduceLE, Int.reduceEq, Int.reduceToNat, not_true_eq_false, not_false_eq_true, Bool.true_eq_false, dSet, dSto, stS, dSetM, dMv, dAsg, gN, gT, gCons, gNil, gSubL, dPar, stosP, stoP, fConsP, dExpr, fYes, fIr, dFor, dIt, fItems, itemsOf, fApp, appV, fMt_eq, fMt0_eq, mtS_str, mtS0_str, opS_some, tyName, dSub, subV, isOw, fMut, fMut0, mutV, fExt, extV, Out.bind_ok, Out.bind_exc, Out.bind_stuck, Out.seq_nx, Out.seq_rt, Out.seq_bk, Out.seq_ct, Out.seq_exc, Out.seq_stuck, Out.back_nx, Out.back_rt, Out.back_exc, Out.turn_nx, Out.turn_rt, Out.turn_ct, Out.turn_bk, List.getElem?_cons_zero, List.getElem?_cons_succ, List.set_cons_zero, List.set_cons_succ, List.cons_append, List.nil_append, List.map_cons, List.map_nil, List.replicate, List.length_cons, List.length_nil, if_true, if_false, Bool.false_eq_true, opLen, opAdd, opSub, opIx, Sw_len, Sw_add, Sw_cut, Sw_cps, Its.grab, Its.free, Nat.zero_add, Nat.sub_zero, Nat.reduceAdd, Nat.reduceSub, hR, opEq_same_str, rtP_rt]
  case hs =>
    rintro pre x post hx ρ ⟨m7, m8, rfl⟩
    obtain ⟨b, s1, s2⟩ := hsame x (by rw [hx]; simp)
    refine ⟨[some (.ow true ds2), some (.sh (imD u v)), some (.sh (.str S)), some (.sh (dw (txt u v))), some (.sh (optD Y)), some (.ow false [.bool Y.isNone, optD Y, .bool Y.isNone]), some (.ow true vals), some (.sh x), m8.map .sh, none], by cases m7 <;> rfl, ?_⟩
    refine ⟨[some (.ow true ds2), some (.sh (imD u v)), some (.sh (.str S)), some (.sh (dw (txt u v))), some (.sh (optD Y)), some (.ow false [.bool Y.isNone, optD Y, .bool Y.isNone]), some (.ow true vals), some (.sh x), some (.sh (.bool b)), none], ⟨some x, some (.bool b), rfl⟩, ?_⟩
    refine seq_step (fun o => o = _) [some (.ow true ds2), some (.sh (imD u v)), some (.sh (.str S)), some (.sh (dw (txt u v))), some (.sh (optD Y)), some (.ow false [.bool Y.isNone, optD Y, .bool Y.isNone]), some (.ow true vals), some (.sh x), some (.sh (.bool b)), none] ?_ ?_
    · simp only [fVar, fC, fFn, fBin, fIx, fSl, rdSl, opSl, fPart, partV, fNo, fNil, fCons, dArg, argv_sh, argv_fr, argv_bo, argv_sc, argv_fn, fNilD, fConsD, frz_sh, frz_fr, rd_sh, rd_fr, rdS_sh, rdS_fr, rdS_sc, rdS_bo, rdSs_nil', rdSs_sh, rdSs_sc, Option.map_some, rd2_sh, rdI_sh, fLst, fTup, lstV, tupV, fCB, rdC, fIsi, isiV, fCall, dIf, fSeq, fRet, fRetN, fNx, fCt, fBk, leave, fTru, tru, fBool, boolV, tAnd', tOr', tNot', opMul_l, opMul_r, opFdiv_p, opMod_p, Int.reduceLT, Int.reduceNeg, Int.reduceAdd, Int.reduceSub, Int.reduceMul, vAnd_eq, vOr_eq, andV_bool, orV_bool, bind_ite, seq_ite, turn_ite, rtOf_ite, rtOf_rt, rtOf_nx, opEq_int, opNe_int, opEq_str, opNe_str, opLt_int, opGt_int, opLe_int, opGe_int, isi_int_none, isi_int_bool, isi_int_int, isi_int_str, isi_int_list, isi_int_tuple, isi_bool_none, isi_bool_bool, isi_bool_int, isi_bool_str, isi_bool_list, isi_bool_tuple, isi_str_none, isi_str_bool, isi_str_int, isi_str_str, isi_str_list, isi_str_tuple, isi_list_none, isi_list_bool, isi_list_int, isi_list_str, isi_list_list, isi_list_tuple, isi_tuple_none, isi_tuple_bool, isi_tuple_int, isi_tuple_str, isi_tuple_list, isi_tuple_tuple, vNot, vIf, fIsN, isNV, isN, fChain_eq, truD, decide_true, decide_false, Bool.not_true, Bool.not_false, decide_eq_true_eq, Int.cast_ofNat_Int, Int.reduceLE, Int.reduceEq, Int.reduceToNat, not_true_eq_false, not_false_eq_true, Bool.true_eq_false, dSet, dSto, stS, dSetM, dMv, dAsg, gN, gT, gCons, gNil, gSubL, dPar, stosP, stoP, fConsP, dExpr, fYes, fIr, dFor, dIt, fItems, itemsOf, fApp, appV, fMt_eq, fMt0_eq, mtS_str, mtS0_str, opS_some, tyName, dSub, subV, isOw, fMut, fMut0, mutV, fExt, extV, Out.bind_ok, Out.bind_exc, Out.bind_stuck, Out.seq_nx, Out.seq_rt, Out.seq_bk, Out.seq_ct, Out.seq_exc, Out.seq_stuck, Out.back_nx, Out.back_rt, Out.back_exc, Out.turn_nx, Out.turn_rt, Out.turn_ct, Out.turn_bk, List.getElem?_cons_zero, List.getElem?_cons_succ, List.set_cons_zero, List.set_cons_succ, List.cons_append, List.nil_append, List.map_cons, List.map_nil, List.replicate, List.length_cons, List.length_nil, if_true, if_false, Bool.false_eq_true, opLen, opAdd, opSub, opIx, Sw_len, Sw_add, Sw_cut, Sw_cps, Its.grab, Its.free, Nat.zero_add, Nat.sub_zero, Nat.reduceAdd, Nat.reduceSub, call2 s1]
      cases m8 <;> rfl
    have hRb : ∀ ρ, opRepr [.list [.bool b, .bool b]] ρ = .ok (.sh (.str (PyData.list [.bool b, .bool b]).shown)) ρ := fun ρ => by simp only [opRepr]; rw [if_pos (fit_says b)]
    generalize (PyData.list [.bool b, .bool b]).shown = S2 at hRb
    simp only [fVar, fC, fFn, fBin, fIx, fSl, rdSl, opSl, fPart, partV, fNo, fNil, fCons, dArg, argv_sh, argv_fr, argv_bo, argv_sc, argv_fn, fNilD, fConsD, frz_sh, frz_fr, rd_sh, rd_fr, rdS_sh, rdS_fr, rdS_sc, rdS_bo, rdSs_nil', rdSs_sh, rdSs_sc, Option.map_some, rd2_sh, rdI_sh, fLst, fTup, lstV, tupV, fCB, rdC, fIsi, isiV, fCall, dIf, fSeq, fRet, fRetN, fNx, fCt, fBk, leave, fTru, tru, fBool, boolV, tAnd', tOr', tNot', opMul_l, opMul_r, opFdiv_p, opMod_p, Int.reduceLT, Int.reduceNeg, Int.reduceAdd, Int.reduceSub, Int.reduceMul, vAnd_eq, vOr_eq, andV_bool, orV_bool, bind_ite, seq_ite, turn_ite, rtOf_ite, rtOf_rt, rtOf_nx, opEq_int, opNe_int, opEq_str, opNe_str, opLt_int, opGt_int, opLe_int, opGe_int, isi_int_none, isi_int_bool, isi_int_int, isi_int_str, isi_int_list, isi_int_tuple, isi_bool_none, isi_bool_bool, isi_bool_int, isi_bool_str, isi_bool_list, isi_bool_tuple, isi_str_none, isi_str_bool, isi_str_int, isi_str_str, isi_str_list, isi_str_tuple, isi_list_none, isi_list_bool, isi_list_int, isi_list_str, isi_list_list, isi_list_tuple, isi_tuple_none, isi_tuple_bool, isi_tuple_int, isi_tuple_str, isi_tuple_list, isi_tuple_tuple, vNot, vIf, fIsN, isNV, isN, fChain_eq, truD, decide_true, decide_false, Bool.not_true, Bool.not_false, decide_eq_true_eq, Int.cast_ofNat_Int, Int.reduceLE, Int.reduceEq, Int.reduceToNat, not_true_eq_false, not_false_eq_true, Bool.true_eq_false, dSet, dSto, stS, dSetM, dMv, dAsg, gN, gT, gCons, gNil, gSubL, dPar, stosP, stoP, fConsP, dExpr, fYes, fIr, dFor, dIt, fItems, itemsOf, fApp, appV, fMt_eq, fMt0_eq, mtS_str, mtS0_str, opS_some, tyName, dSub, subV, isOw, fMut, fMut0, mutV, fExt, extV, Out.bind_ok, Out.bind_exc, Out.bind_stuck, Out.seq_nx, Out.seq_rt, Out.seq_bk, Out.seq_ct, Out.seq_exc, Out.seq_stuck, Out.back_nx, Out.back_rt, Out.back_exc, Out.turn_nx, Out.turn_rt, Out.turn_ct, Out.turn_bk, List.getElem?_cons_zero, List.getElem?_cons_succ, List.set_cons_zero, List.set_cons_succ, List.cons_append, List.nil_append, List.map_cons, List.map_nil, List.replicate, List.length_cons, List.length_nil, if_true, if_false, Bool.false_eq_true, opLen, opAdd, opSub, opIx, Sw_len, Sw_add, Sw_cut, Sw_cps, Its.grab, Its.free, Nat.zero_add, Nat.sub_zero, Nat.reduceAdd, Nat.reduceSub, fCallK, permL_two, call2 s2, hz2, rdSs_fr1, hRb, opNe_same_str]
end K87
namespace K87
open PySem DL
theorem good_rowsQ : (rowsP.all fun r => goodQ r.1 r.2) = true := by decide +kernel
theorem good_bentsQ : (bents.all fun r => goodQ r.1 r.2) = true := by decide +kernel
def goodU (u : List Nat) : Bool := words4.all fun v => goodQ u v
theorem words4_eq : words4 = [[97], [98], [97, 97], [97, 98], [98, 97], [98, 98], [97, 97, 97], [97, 97, 98], [97, 98, 97], [97, 98, 98], [98, 97, 97], [98, 97, 98], [98, 98, 97], [98, 98, 98], [97, 97, 97, 97], [97, 97, 97, 98], [97, 97, 98, 97], [97, 97, 98, 98], [97, 98, 97, 97], [97, 98, 97, 98], [97, 98, 98, 97], [97, 98, 98, 98], [98, 97, 97, 97], [98, 97, 97, 98], [98, 97, 98, 97], [98, 97, 98, 98], [98, 98, 97, 97], [98, 98, 97, 98], [98, 98, 98, 97], [98, 98, 98, 98]] := by decide +kernel
theorem gw_0 : goodU [97] = true := by decide +kernel
theorem gw_1 : goodU [98] = true := by decide +kernel
theorem gw_2 : goodU [97, 97] = true := by decide +kernel
theorem gw_3 : goodU [97, 98] = true := by decide +kernel
theorem gw_4 : goodU [98, 97] = true := by decide +kernel
theorem gw_5 : goodU [98, 98] = true := by decide +kernel
theorem gw_6 : goodU [97, 97, 97] = true := by decide +kernel
theorem gw_7 : goodU [97, 97, 98] = true := by decide +kernel
theorem gw_8 : goodU [97, 98, 97] = true := by decide +kernel
theorem gw_9 : goodU [97, 98, 98] = true := by decide +kernel
theorem gw_10 : goodU [98, 97, 97] = true := by decide +kernel
theorem gw_11 : goodU [98, 97, 98] = true := by decide +kernel
theorem gw_12 : goodU [98, 98, 97] = true := by decide +kernel
theorem gw_13 : goodU [98, 98, 98] = true := by decide +kernel
theorem gw_14 : goodU [97, 97, 97, 97] = true := by decide +kernel
theorem gw_15 : goodU [97, 97, 97, 98] = true := by decide +kernel
theorem gw_16 : goodU [97, 97, 98, 97] = true := by decide +kernel
theorem gw_17 : goodU [97, 97, 98, 98] = true := by decide +kernel
theorem gw_18 : goodU [97, 98, 97, 97] = true := by decide +kernel
theorem gw_19 : goodU [97, 98, 97, 98] = true := by decide +kernel
theorem gw_20 : goodU [97, 98, 98, 97] = true := by decide +kernel
theorem gw_21 : goodU [97, 98, 98, 98] = true := by decide +kernel
theorem gw_22 : goodU [98, 97, 97, 97] = true := by decide +kernel
theorem gw_23 : goodU [98, 97, 97, 98] = true := by decide +kernel
theorem gw_24 : goodU [98, 97, 98, 97] = true := by decide +kernel
theorem gw_25 : goodU [98, 97, 98, 98] = true := by decide +kernel
theorem gw_26 : goodU [98, 98, 97, 97] = true := by decide +kernel
theorem gw_27 : goodU [98, 98, 97, 98] = true := by decide +kernel
theorem gw_28 : goodU [98, 98, 98, 97] = true := by decide +kernel
theorem gw_29 : goodU [98, 98, 98, 98] = true := by decide +kernel
theorem good_wordsQ : (words4.all fun u => words4.all fun v => goodQ u v) = true := by
  show words4.all goodU = true
  rw [words4_eq]
  simp only [List.all_cons, List.all_nil, Bool.and_true, gw_0, gw_1, gw_2, gw_3, gw_4, gw_5, gw_6, gw_7, gw_8, gw_9, gw_10, gw_11, gw_12, gw_13, gw_14, gw_15, gw_16, gw_17, gw_18, gw_19, gw_20, gw_21, gw_22, gw_23, gw_24, gw_25, gw_26, gw_27, gw_28, gw_29]
end K87
namespace K87
open PySem DL
def okB (u v : List Nat) : Bool := (u.all fun c => decide (c = 97 ∨ c = 98)) && (v.all fun c => decide (c = 97 ∨ c = 98)) && decide (1 ≤ u.length ∧ u.length ≤ 12 ∧ 1 ≤ v.length ∧ v.length ≤ 12)
theorem okB_ok {u v : List Nat} (h : okB u v = true) : Ok u v := by
  unfold okB at h
  simp only [Bool.and_eq_true, List.all_eq_true, decide_eq_true_eq] at h
  exact ⟨h.1.1, h.1.2, h.2⟩
theorem rows_ok : (rowsP.all fun r => okB r.1 r.2) = true := by decide +kernel
theorem bents_ok : (bents.all fun r => okB r.1 r.2) = true := by decide +kernel
theorem row_good {r : List Nat × List Nat} (h : r ∈ rowsP) : Ok r.1 r.2 ∧ goodP r.1 r.2 = true :=
  ⟨okB_ok (List.all_eq_true.mp rows_ok r h), (goodQ_eq _ _).trans (List.all_eq_true.mp good_rowsQ r h)⟩
theorem bent_good {r : List Nat × List Nat} (h : r ∈ bents) : Ok r.1 r.2 ∧ goodP r.1 r.2 = true :=
  ⟨okB_ok (List.all_eq_true.mp bents_ok r h), (goodQ_eq _ _).trans (List.all_eq_true.mp good_bentsQ r h)⟩
theorem mem_words : ∀ (n : Nat) (w : List Nat), w.length = n → AB w → w ∈ wordsN n
  | 0, w, h, _ => by
    have : w = [] := List.eq_nil_of_length_eq_zero h
    subst this; simp [wordsN]
  | n + 1, w, h, hw => by
    have hne : w ≠ [] := by rintro rfl; simp at h
    have e : w.dropLast ++ [w.getLast hne] = w := List.dropLast_concat_getLast hne
    have h1 := mem_words n w.dropLast (by simp [h]) fun c hc => hw c (List.dropLast_subset w hc)
    have h2 := hw _ (List.getLast_mem hne)
    unfold wordsN exts
    rw [List.mem_flatMap]
    refine ⟨_, h1, ?_⟩
    rcases h2 with h2 | h2
    · rw [h2] at e; rw [← e]; simp
    · rw [h2] at e; rw [← e]; simp
theorem mem_words4 {w : List Nat} (h : AB w) (h1 : 1 ≤ w.length) (h2 : w.length ≤ 4) : w ∈ words4 := by
  have h3 := mem_words w.length w rfl h
  unfold words4
  simp only [List.mem_append]
  have h4 : w.length = 1 ∨ w.length = 2 ∨ w.length = 3 ∨ w.length = 4 := by omega
  rcases h4 with h4 | h4 | h4 | h4 <;> rw [h4] at h3 <;> simp [h3]
theorem word_good {u v : List Nat} (hu : AB u ∧ 1 ≤ u.length ∧ u.length ≤ 4) (hv : AB v ∧ 1 ≤ v.length ∧ v.length ≤ 4) : Ok u v ∧ goodP u v = true :=
  ⟨⟨hu.1, hv.1, by omega, by omega, by omega, by omega⟩, (goodQ_eq _ _).trans (List.all_eq_true.mp (List.all_eq_true.mp good_wordsQ u (mem_words4 hu.1 hu.2.1 hu.2.2)) v (mem_words4 hv.1 hv.2.1 hv.2.2))⟩
theorem bent_mem {r : List Nat × List Nat} (h : r ∈ rowsP) : (∀ i < r.1.length, (bentAt r.1 i, r.2) ∈ bents) ∧ (∀ i < r.2.length, (r.1, bentAt r.2 i) ∈ bents) := by
  unfold bents
  refine ⟨fun i hi => ?_, fun i hi => ?_⟩
  · rw [List.mem_flatMap]
    exact ⟨r, h, List.mem_append.mpr (.inl (List.mem_map.mpr ⟨i, List.mem_range.mpr hi, rfl⟩))⟩
  · rw [List.mem_flatMap]
    exact ⟨r, h, List.mem_append.mpr (.inr (List.mem_map.mpr ⟨i, List.mem_range.mpr hi, rfl⟩))⟩
theorem ite_d {α : Type} (c : Prop) [Decidable c] (a b : α) : (if (decide c) = true then a else b) = if c then a else b := by by_cases h : c <;> simp [h]
theorem all_true' (ys : List D) (h : ∀ y ∈ ys, y = .bool true) (ρ : DL.Env) : opAll [.list ys] ρ = .ok (.sh (.bool true)) ρ := by
  have e : ∀ ys : List D, (∀ y ∈ ys, y = .bool true) → ∃ bs : List Bool, boolsOf ys = some bs ∧ bs.all id = true := by
    intro ys
    induction ys with
    | nil => intro _; exact ⟨[], rfl, rfl⟩
    | cons y ys ih =>
      intro h
      obtain ⟨bs, h1, h2⟩ := ih fun z hz => h z (by simp [hz])
      have h3 := h y (by simp)
      subst h3
      exact ⟨true :: bs, by simp only [boolsOf, h1, Option.map_some], by simp only [List.all_cons, h2, id, Bool.and_self]⟩
  obtain ⟨bs, h1, h2⟩ := e ys h
  simp only [opAll, h1, h2]
theorem rd_fr1 (ds : List D) (ρ : DL.Env) : rdSs [.fr ds] ρ = some [.list ds] := rfl
theorem paired_true : ∀ {ds ys : List D}, PySem.Paired (fun (_ y : D) => y = .bool true) ds ys → ∀ y ∈ ys, y = .bool true
  | _, _, .nil => by simp
  | _, _, .cons h t => by
    intro y hy
    rcases List.mem_cons.mp hy with rfl | hy
    · exact h
    · exact paired_true t y hy
theorem law_bent (w : List Nat) {i : Nat} (hi : i < w.length) (hl : w.length ≤ 12) (hw : AB w) (a0 a1 a2 a3 a4 : Option SV) : dSet 7 (fBin opAdd (fBin opAdd (fSl (fVar 5) (fNo) (fPart (fVar 6))) (vIf (fBool (fBin opEq (fIx (fVar 5) (fVar 6)) (fC (.str "a")))) (fC (.str "b")) (fC (.str "a")))) (fSl (fVar 5) (fPart (fBin opAdd (fVar 6) (fC (.int 1)))) (fNo))) [a0, a1, a2, a3, a4, some (.sh (dw w)), some (.sh (natD i)), none, none, none, none, none] = .ok .nx [a0, a1, a2, a3, a4, some (.sh (dw w)), some (.sh (natD i)), some (.sh (dw (bentAt w i))), none, none, none, none] := by
  have e1 : ((i : Int) + 1) = ((i + 1 : Nat) : Int) := by omega
  have e2 : L2.atI (Sw w).cps.toList (i : Int) = some w[i] := by rw [Sw_cps]; exact atI_n hi
  have hz : (w.take i).length + 1 ≤ sizeLine := by have := sizeL; rw [List.length_take]; omega
  have hz2 : (w.take i ++ [flip1 w[i]]).length + (w.drop (i + 1)).length ≤ sizeLine := by have := sizeL; simp; omega
  have hb : bentAt w i = w.take i ++ [flip1 w[i]] ++ w.drop (i + 1) := by
    unfold bentAt
    rw [List.getD_eq_getElem?_getD, List.getElem?_eq_getElem hi]; rfl
  have hc := hw w[i] (List.getElem_mem hi)
  have e2' : L2.atI w (i : Int) = some w[i] := atI_n hi
  rw [hb]
  unfold natD
  generalize w[i] = c at *
  rcases hc with rfl | rfl
  · have hf : flip1 97 = 98 := rfl
    rw [hf] at hz2 ⊢
    simp only [fVar, fC, fFn, fBin, fIx, fSl, rdSl, opSl, fPart, partV, fNo, fNil, fCons, dArg, argv_sh, argv_fr, argv_bo, argv_sc, argv_fn, fNilD, fConsD, frz_sh, frz_fr, rd_sh, rd_fr, rdS_sh, rdS_fr, rdS_sc, rdS_bo, rdSs_nil', rdSs_sh, rdSs_sc, Option.map_some, rd2_sh, rdI_sh, fLst, fTup, lstV, tupV, fCB, rdC, fIsi, isiV, fCall, dIf, fSeq, fRet, fRetN, fNx, fCt, fBk, leave, fTru, tru, fBool, boolV, tAnd', tOr', tNot', opMul_l, opMul_r, opFdiv_p, opMod_p, Int.reduceLT, Int.reduceNeg, Int.reduceAdd, Int.reduceSub, Int.reduceMul, vAnd_eq, vOr_eq, andV_bool, orV_bool, bind_ite, seq_ite, turn_ite, rtOf_ite, rtOf_rt, rtOf_nx, opEq_int, opNe_int, opEq_str, opNe_str, opLt_int, opGt_int, opLe_int, opGe_int, isi_int_none, isi_int_bool, isi_int_int, isi_int_str, isi_int_list, isi_int_tuple, isi_bool_none, isi_bool_bool, isi_bool_int, isi_bool_str, isi_bool_list, isi_bool_tuple, isi_str_none, isi_str_bool, isi_str_int, isi_str_str, isi_str_list, isi_str_tuple, isi_list_none, isi_list_bool, isi_list_int, isi_list_str, isi_list_list, isi_list_tuple, isi_tuple_none, isi_tuple_bool, isi_tuple_int, isi_tuple_str, isi_tuple_list, isi_tuple_tuple, vNot, vIf, fIsN, isNV, isN, fChain_eq, truD, decide_true, decide_false, Bool.not_true, Bool.not_false, decide_eq_true_eq, Int.cast_ofNat_Int, Int.reduceLE, Int.reduceEq, Int.reduceToNat, not_true_eq_false, not_false_eq_true, Bool.true_eq_false, dSet, dSto, stS, dSetM, dMv, dAsg, gN, gT, gCons, gNil, gSubL, dPar, stosP, stoP, fConsP, dExpr, fYes, fIr, dFor, dIt, fItems, itemsOf, fApp, appV, fMt_eq, fMt0_eq, mtS_str, mtS0_str, opS_some, tyName, dSub, subV, isOw, fMut, fMut0, mutV, fExt, extV, Out.bind_ok, Out.bind_exc, Out.bind_stuck, Out.seq_nx, Out.seq_rt, Out.seq_bk, Out.seq_ct, Out.seq_exc, Out.seq_stuck, Out.back_nx, Out.back_rt, Out.back_exc, Out.turn_nx, Out.turn_rt, Out.turn_ct, Out.turn_bk, List.getElem?_cons_zero, List.getElem?_cons_succ, List.set_cons_zero, List.set_cons_succ, List.cons_append, List.nil_append, List.map_cons, List.map_nil, List.replicate, List.length_cons, List.length_nil, if_true, if_false, Bool.false_eq_true, opLen, opAdd, opSub, opIx, Sw_len, Sw_add, Sw_cut, Sw_cps, Its.grab, Its.free, Nat.zero_add, Nat.sub_zero, Nat.reduceAdd, Nat.reduceSub, lit_a, lit_b, e1, e2', sign_dw, cut_to, cut_from, hz, hz2]
  · have hf : flip1 98 = 97 := rfl
    rw [hf] at hz2 ⊢
    have hn : ¬ ([98] : List Nat) = [97] := by decide
    simp only [fVar, fC, fFn, fBin, fIx, fSl, rdSl, opSl, fPart, partV, fNo, fNil, fCons, dArg, argv_sh, argv_fr, argv_bo, argv_sc, argv_fn, fNilD, fConsD, frz_sh, frz_fr, rd_sh, rd_fr, rdS_sh, rdS_fr, rdS_sc, rdS_bo, rdSs_nil', rdSs_sh, rdSs_sc, Option.map_some, rd2_sh, rdI_sh, fLst, fTup, lstV, tupV, fCB, rdC, fIsi, isiV, fCall, dIf, fSeq, fRet, fRetN, fNx, fCt, fBk, leave, fTru, tru, fBool, boolV, tAnd', tOr', tNot', opMul_l, opMul_r, opFdiv_p, opMod_p, Int.reduceLT, Int.reduceNeg, Int.reduceAdd, Int.reduceSub, Int.reduceMul, vAnd_eq, vOr_eq, andV_bool, orV_bool, bind_ite, seq_ite, turn_ite, rtOf_ite, rtOf_rt, rtOf_nx, opEq_int, opNe_int, opEq_str, opNe_str, opLt_int, opGt_int, opLe_int, opGe_int, isi_int_none, isi_int_bool, isi_int_int, isi_int_str, isi_int_list, isi_int_tuple, isi_bool_none, isi_bool_bool, isi_bool_int, isi_bool_str, isi_bool_list, isi_bool_tuple, isi_str_none, isi_str_bool, isi_str_int, isi_str_str, isi_str_list, isi_str_tuple, isi_list_none, isi_list_bool, isi_list_int, isi_list_str, isi_list_list, isi_list_tuple, isi_tuple_none, isi_tuple_bool, isi_tuple_int, isi_tuple_str, isi_tuple_list, isi_tuple_tuple, vNot, vIf, fIsN, isNV, isN, fChain_eq, truD, decide_true, decide_false, Bool.not_true, Bool.not_false, decide_eq_true_eq, Int.cast_ofNat_Int, Int.reduceLE, Int.reduceEq, Int.reduceToNat, not_true_eq_false, not_false_eq_true, Bool.true_eq_false, dSet, dSto, stS, dSetM, dMv, dAsg, gN, gT, gCons, gNil, gSubL, dPar, stosP, stoP, fConsP, dExpr, fYes, fIr, dFor, dIt, fItems, itemsOf, fApp, appV, fMt_eq, fMt0_eq, mtS_str, mtS0_str, opS_some, tyName, dSub, subV, isOw, fMut, fMut0, mutV, fExt, extV, Out.bind_ok, Out.bind_exc, Out.bind_stuck, Out.seq_nx, Out.seq_rt, Out.seq_bk, Out.seq_ct, Out.seq_exc, Out.seq_stuck, Out.back_nx, Out.back_rt, Out.back_exc, Out.turn_nx, Out.turn_rt, Out.turn_ct, Out.turn_bk, List.getElem?_cons_zero, List.getElem?_cons_succ, List.set_cons_zero, List.set_cons_succ, List.cons_append, List.nil_append, List.map_cons, List.map_nil, List.replicate, List.length_cons, List.length_nil, if_true, if_false, Bool.false_eq_true, opLen, opAdd, opSub, opIx, Sw_len, Sw_add, Sw_cut, Sw_cps, Its.grab, Its.free, Nat.zero_add, Nat.sub_zero, Nat.reduceAdd, Nat.reduceSub, lit_a, lit_b, e1, e2', sign_dw, cut_to, cut_from, hz, hz2, hn]
theorem callS2 {g : FD} {ns : List Int} {d : D} {r : EV} (h : GvS g [.sc ns, .sh d] r) (ρ : DL.Env) (hb : ∀ i, r ≠ .bo i := by intro _ h; cases h) : dCallN 2 g [.sc ns, .sh d] ρ = .ok r ρ := gvs_call h rfl hb ρ
theorem enum_pair (u v : List Nat) (ρ : DL.Env) : enumV [.sh (.tuple [dw u, dw v])] ρ = .ok ⟨[.tuple [.int 0, dw u], .tuple [.int 1, dw v]], none⟩ ρ := rfl
set_option maxHeartbeats 4000000 in
theorem law_gv (ns : List Int) : GvS g_law [.sc ns] (.sh (.bool true)) := by
  obtain ⟨p0, hp0, gp0⟩ := law_pot ns 0 (by omega)
  obtain ⟨l0, hl0, gl0⟩ := law_pot ns 1 (by omega)
  obtain ⟨good, p1, hgood, hp1, gp1⟩ := law_pick hp0 (xs := rowsP.map rowD) (by decide +kernel) (by decide +kernel)
  obtain ⟨r, hr, rfl⟩ := List.mem_map.mp hgood
  obtain ⟨at_, p2, hat, hp2, gp2⟩ := law_draw hp1 (n := 2) (by omega) (by omega)
  obtain ⟨u, v⟩ := r
  obtain ⟨okr, gdr⟩ := row_good hr
  simp only at okr gdr
  let one := if at_ = 0 then u else v
  have hone : AB one ∧ 1 ≤ one.length ∧ one.length ≤ 12 := by
    obtain ⟨h1, h2, h3, h4, h5, h6⟩ := okr
    simp only [one]
    split
    · exact ⟨h1, h3, h4⟩
    · exact ⟨h2, h5, h6⟩
  obtain ⟨pl, l1, hpl, hl1, gl1⟩ := law_draw hl0 (n := one.length) (by omega) (by omega)
  let bu := if at_ = 0 then bentAt one pl else u
  let bv := if at_ = 0 then v else bentAt one pl
  have hbent : Ok bu bv ∧ goodP bu bv = true := by
    have hm := bent_mem hr
    simp only [bu, bv, one]
    by_cases h : at_ = 0
    · simp only [one, h, if_true] at hpl ⊢
      exact bent_good (hm.1 pl hpl)
    · simp only [one, h, if_false] at hpl ⊢
      exact bent_good (hm.2 pl hpl)
  obtain ⟨u3, v3, p3, hu3, hv3, hp3, gp3⟩ := law_images hp2 (m := 4) (by omega) (by omega)
  obtain ⟨u4, v4, l2, hu4, hv4, hl2, gl2⟩ := law_images hl1 (m := 2) (by omega) (by omega)
  have hz1 : 2 ≤ sizeLine := by have := sizeL; omega
  have hz4 : 4 ≤ sizeLine := by have := sizeL; omega
  refine gvs_rt ?_
  unfold b_law
  refine seq_step (fun o => rtOf o = _) [some (.sc ns), some (.ow false p0), some (.ow false l0), none, none, none, none, none, none, none, none, none] ?_ ?_
  · have c0 := callS2 gp0
    have c1 := callS2 gl0
    unfold natD at c0 c1
    have c0' : ∀ ρ, dCallN 2 g__law_pot [.sc ns, .sh (.int 0)] ρ = .ok (.fr p0) ρ := fun ρ => c0 ρ
    have c1' : ∀ ρ, dCallN 2 g__law_pot [.sc ns, .sh (.int 1)] ρ = .ok (.fr l0) ρ := fun ρ => c1 ρ
    simp only [fVar, fC, fFn, fBin, fIx, fSl, rdSl, opSl, fPart, partV, fNo, fNil, fCons, dArg, argv_sh, argv_fr, argv_bo, argv_sc, argv_fn, fNilD, fConsD, frz_sh, frz_fr, rd_sh, rd_fr, rdS_sh, rdS_fr, rdS_sc, rdS_bo, rdSs_nil', rdSs_sh, rdSs_sc, Option.map_some, rd2_sh, rdI_sh, fLst, fTup, lstV, tupV, fCB, rdC, fIsi, isiV, fCall, dIf, fSeq, fRet, fRetN, fNx, fCt, fBk, leave, fTru, tru, fBool, boolV, tAnd', tOr', tNot', opMul_l, opMul_r, opFdiv_p, opMod_p, Int.reduceLT, Int.reduceNeg, Int.reduceAdd, Int.reduceSub, Int.reduceMul, vAnd_eq, vOr_eq, andV_bool, orV_bool, bind_ite, seq_ite, turn_ite, rtOf_ite, rtOf_rt, rtOf_nx, opEq_int, opNe_int, opEq_str, opNe_str, opLt_int, opGt_int, opLe_int, opGe_int, isi_int_none, isi_int_bool, isi_int_int, isi_int_str, isi_int_list, isi_int_tuple, isi_bool_none, isi_bool_bool, isi_bool_int, isi_bool_str, isi_bool_list, isi_bool_tuple, isi_str_none, isi_str_bool, isi_str_int, isi_str_str, isi_str_list, isi_str_tuple, isi_list_none, isi_list_bool, isi_list_int, isi_list_str, isi_list_list, isi_list_tuple, isi_tuple_none, isi_tuple_bool, isi_tuple_int, isi_tuple_str, isi_tuple_list, isi_tuple_tuple, vNot, vIf, fIsN, isNV, isN, fChain_eq, truD, decide_true, decide_false, Bool.not_true, Bool.not_false, decide_eq_true_eq, Int.cast_ofNat_Int, Int.reduceLE, Int.reduceEq, Int.reduceToNat, not_true_eq_false, not_false_eq_true, Bool.true_eq_false, dSet, dSto, stS, dSetM, dMv, dAsg, gN, gT, gCons, gNil, gSubL, dPar, stosP, stoP, fConsP, dExpr, fYes, fIr, dFor, dIt, fItems, itemsOf, fApp, appV, fMt_eq, fMt0_eq, mtS_str, mtS0_str, opS_some, tyName, dSub, subV, isOw, fMut, fMut0, mutV, fExt, extV, Out.bind_ok, Out.bind_exc, Out.bind_stuck, Out.seq_nx, Out.seq_rt, Out.seq_bk, Out.seq_ct, Out.seq_exc, Out.seq_stuck, Out.back_nx, Out.back_rt, Out.back_exc, Out.turn_nx, Out.turn_rt, Out.turn_ct, Out.turn_bk, List.getElem?_cons_zero, List.getElem?_cons_succ, List.set_cons_zero, List.set_cons_succ, List.cons_append, List.nil_append, List.map_cons, List.map_nil, List.replicate, List.length_cons, List.length_nil, if_true, if_false, Bool.false_eq_true, opLen, opAdd, opSub, opIx, Sw_len, Sw_add, Sw_cut, Sw_cps, Its.grab, Its.free, Nat.zero_add, Nat.sub_zero, Nat.reduceAdd, Nat.reduceSub, argv_sc, c0', c1']
  refine seq_step (fun o => rtOf o = _) [some (.sc ns), some (.ow false p1), some (.ow false l0), some (.sh (imD u v)), none, none, none, none, none, none, none, none] ?_ ?_
  · have hrows : ∀ ρ, dCallN 0 g__law_rows [] ρ = .ok (.fr (rowsP.map rowD)) ρ := fun ρ => gv_call (as := []) law_rows_eq (by intro _ h; cases h) ρ
    have c1 : dCallN 2 g__law_pick [.bo 1, .sh (.list (rowsP.map rowD))] [some (.sc ns), some (.ow false p0), some (.ow false l0), none, none, none, none, none, none, none, none, none] = .ok (.sh (imD u v)) [some (.sc ns), some (.ow false p1), some (.ow false l0), none, none, none, none, none, none, none, none, none] := callP1 gp1 rfl
    simp only [fVar, fC, fFn, fBin, fIx, fSl, rdSl, opSl, fPart, partV, fNo, fNil, fCons, dArg, argv_sh, argv_fr, argv_bo, argv_sc, argv_fn, fNilD, fConsD, frz_sh, frz_fr, rd_sh, rd_fr, rdS_sh, rdS_fr, rdS_sc, rdS_bo, rdSs_nil', rdSs_sh, rdSs_sc, Option.map_some, rd2_sh, rdI_sh, fLst, fTup, lstV, tupV, fCB, rdC, fIsi, isiV, fCall, dIf, fSeq, fRet, fRetN, fNx, fCt, fBk, leave, fTru, tru, fBool, boolV, tAnd', tOr', tNot', opMul_l, opMul_r, opFdiv_p, opMod_p, Int.reduceLT, Int.reduceNeg, Int.reduceAdd, Int.reduceSub, Int.reduceMul, vAnd_eq, vOr_eq, andV_bool, orV_bool, bind_ite, seq_ite, turn_ite, rtOf_ite, rtOf_rt, rtOf_nx, opEq_int, opNe_int, opEq_str, opNe_str, opLt_int, opGt_int, opLe_int, opGe_int, isi_int_none, isi_int_bool, isi_int_int, isi_int_str, isi_int_list, isi_int_tuple, isi_bool_none, isi_bool_bool, isi_bool_int, isi_bool_str, isi_bool_list, isi_bool_tuple, isi_str_none, isi_str_bool, isi_str_int, isi_str_str, isi_str_list, isi_str_tuple, isi_list_none, isi_list_bool, isi_list_int, isi_list_str, isi_list_list, isi_list_tuple, isi_tuple_none, isi_tuple_bool, isi_tuple_int, isi_tuple_str, isi_tuple_list, isi_tuple_tuple, vNot, vIf, fIsN, isNV, isN, fChain_eq, truD, decide_true, decide_false, Bool.not_true, Bool.not_false, decide_eq_true_eq, Int.cast_ofNat_Int, Int.reduceLE, Int.reduceEq, Int.reduceToNat, not_true_eq_false, not_false_eq_true, Bool.true_eq_false, dSet, dSto, stS, dSetM, dMv, dAsg, gN, gT, gCons, gNil, gSubL, dPar, stosP, stoP, fConsP, dExpr, fYes, fIr, dFor, dIt, fItems, itemsOf, fApp, appV, fMt_eq, fMt0_eq, mtS_str, mtS0_str, opS_some, tyName, dSub, subV, isOw, fMut, fMut0, mutV, fExt, extV, Out.bind_ok, Out.bind_exc, Out.bind_stuck, Out.seq_nx, Out.seq_rt, Out.seq_bk, Out.seq_ct, Out.seq_exc, Out.seq_stuck, Out.back_nx, Out.back_rt, Out.back_exc, Out.turn_nx, Out.turn_rt, Out.turn_ct, Out.turn_bk, List.getElem?_cons_zero, List.getElem?_cons_succ, List.set_cons_zero, List.set_cons_succ, List.cons_append, List.nil_append, List.map_cons, List.map_nil, List.replicate, List.length_cons, List.length_nil, if_true, if_false, Bool.false_eq_true, opLen, opAdd, opSub, opIx, Sw_len, Sw_add, Sw_cut, Sw_cps, Its.grab, Its.free, Nat.zero_add, Nat.sub_zero, Nat.reduceAdd, Nat.reduceSub, ar_bo, hrows, c1]
  refine seq_step (fun o => rtOf o = _) [some (.sc ns), some (.ow false p2), some (.ow false l0), some (.sh (imD u v)), some (.sh (natD at_)), none, none, none, none, none, none, none] ?_ ?_
  · have c1 : dCallN 2 g__law_draw [.bo 1, .sh (natD 2)] [some (.sc ns), some (.ow false p1), some (.ow false l0), some (.sh (imD u v)), none, none, none, none, none, none, none, none] = .ok (.sh (natD at_)) [some (.sc ns), some (.ow false p2), some (.ow false l0), some (.sh (imD u v)), none, none, none, none, none, none, none, none] := callP1 gp2 rfl
    have e2 : natD 2 = .int 2 := rfl
    rw [e2] at c1
    simp only [fVar, fC, fFn, fBin, fIx, fSl, rdSl, opSl, fPart, partV, fNo, fNil, fCons, dArg, argv_sh, argv_fr, argv_bo, argv_sc, argv_fn, fNilD, fConsD, frz_sh, frz_fr, rd_sh, rd_fr, rdS_sh, rdS_fr, rdS_sc, rdS_bo, rdSs_nil', rdSs_sh, rdSs_sc, Option.map_some, rd2_sh, rdI_sh, fLst, fTup, lstV, tupV, fCB, rdC, fIsi, isiV, fCall, dIf, fSeq, fRet, fRetN, fNx, fCt, fBk, leave, fTru, tru, fBool, boolV, tAnd', tOr', tNot', opMul_l, opMul_r, opFdiv_p, opMod_p, Int.reduceLT, Int.reduceNeg, Int.reduceAdd, Int.reduceSub, Int.reduceMul, vAnd_eq, vOr_eq, andV_bool, orV_bool, bind_ite, seq_ite, turn_ite, rtOf_ite, rtOf_rt, rtOf_nx, opEq_int, opNe_int, opEq_str, opNe_str, opLt_int, opGt_int, opLe_int, opGe_int, isi_int_none, isi_int_bool, isi_int_int, isi_int_str, isi_int_list, isi_int_tuple, isi_bool_none, isi_bool_bool, isi_bool_int, isi_bool_str, isi_bool_list, isi_bool_tuple, isi_str_none, isi_str_bool, isi_str_int, isi_str_str, isi_str_list, isi_str_tuple, isi_list_none, isi_list_bool, isi_list_int, isi_list_str, isi_list_list, isi_list_tuple, isi_tuple_none, isi_tuple_bool, isi_tuple_int, isi_tuple_str, isi_tuple_list, isi_tuple_tuple, vNot, vIf, fIsN, isNV, isN, fChain_eq, truD, decide_true, decide_false, Bool.not_true, Bool.not_false, decide_eq_true_eq, Int.cast_ofNat_Int, Int.reduceLE, Int.reduceEq, Int.reduceToNat, not_true_eq_false, not_false_eq_true, Bool.true_eq_false, dSet, dSto, stS, dSetM, dMv, dAsg, gN, gT, gCons, gNil, gSubL, dPar, stosP, stoP, fConsP, dExpr, fYes, fIr, dFor, dIt, fItems, itemsOf, fApp, appV, fMt_eq, fMt0_eq, mtS_str, mtS0_str, opS_some, tyName, dSub, subV, isOw, fMut, fMut0, mutV, fExt, extV, Out.bind_ok, Out.bind_exc, Out.bind_stuck, Out.seq_nx, Out.seq_rt, Out.seq_bk, Out.seq_ct, Out.seq_exc, Out.seq_stuck, Out.back_nx, Out.back_rt, Out.back_exc, Out.turn_nx, Out.turn_rt, Out.turn_ct, Out.turn_bk, List.getElem?_cons_zero, List.getElem?_cons_succ, List.set_cons_zero, List.set_cons_succ, List.cons_append, List.nil_append, List.map_cons, List.map_nil, List.replicate, List.length_cons, List.length_nil, if_true, if_false, Bool.false_eq_true, opLen, opAdd, opSub, opIx, Sw_len, Sw_add, Sw_cut, Sw_cps, Its.grab, Its.free, Nat.zero_add, Nat.sub_zero, Nat.reduceAdd, Nat.reduceSub, ar_bo, c1]
  refine seq_step (fun o => rtOf o = _) [some (.sc ns), some (.ow false p2), some (.ow false l0), some (.sh (imD u v)), some (.sh (natD at_)), some (.sh (dw one)), none, none, none, none, none, none] ?_ ?_
  · unfold imD natD
    have hq : at_ = 0 ∨ at_ = 1 := by omega
    rcases hq with h | h
    · have e : L2.atI [dw u, dw v] ((at_ : Nat) : Int) = some (dw one) := by simp only [one, h, if_true]; rfl
      simp only [fVar, fC, fFn, fBin, fIx, fSl, rdSl, opSl, fPart, partV, fNo, fNil, fCons, dArg, argv_sh, argv_fr, argv_bo, argv_sc, argv_fn, fNilD, fConsD, frz_sh, frz_fr, rd_sh, rd_fr, rdS_sh, rdS_fr, rdS_sc, rdS_bo, rdSs_nil', rdSs_sh, rdSs_sc, Option.map_some, rd2_sh, rdI_sh, fLst, fTup, lstV, tupV, fCB, rdC, fIsi, isiV, fCall, dIf, fSeq, fRet, fRetN, fNx, fCt, fBk, leave, fTru, tru, fBool, boolV, tAnd', tOr', tNot', opMul_l, opMul_r, opFdiv_p, opMod_p, Int.reduceLT, Int.reduceNeg, Int.reduceAdd, Int.reduceSub, Int.reduceMul, vAnd_eq, vOr_eq, andV_bool, orV_bool, bind_ite, seq_ite, turn_ite, rtOf_ite, rtOf_rt, rtOf_nx, opEq_int, opNe_int, opEq_str, opNe_str, opLt_int, opGt_int, opLe_int, opGe_int, isi_int_none, isi_int_bool, isi_int_int, isi_int_str, isi_int_list, isi_int_tuple, isi_bool_none, isi_bool_bool, isi_bool_int, isi_bool_str, isi_bool_list, isi_bool_tuple, isi_str_none, isi_str_bool, isi_str_int, isi_str_str, isi_str_list, isi_str_tuple, isi_list_none, isi_list_bool, isi_list_int, isi_list_str, isi_list_list, isi_list_tuple, isi_tuple_none, isi_tuple_bool, isi_tuple_int, isi_tuple_str, isi_tuple_list, isi_tuple_tuple, vNot, vIf, fIsN, isNV, isN, fChain_eq, truD, decide_true, decide_false, Bool.not_true, Bool.not_false, decide_eq_true_eq, Int.cast_ofNat_Int, Int.reduceLE, Int.reduceEq, Int.reduceToNat, not_true_eq_false, not_false_eq_true, Bool.true_eq_false, dSet, dSto, stS, dSetM, dMv, dAsg, gN, gT, gCons, gNil, gSubL, dPar, stosP, stoP, fConsP, dExpr, fYes, fIr, dFor, dIt, fItems, itemsOf, fApp, appV, fMt_eq, fMt0_eq, mtS_str, mtS0_str, opS_some, tyName, dSub, subV, isOw, fMut, fMut0, mutV, fExt, extV, Out.bind_ok, Out.bind_exc, Out.bind_stuck, Out.seq_nx, Out.seq_rt, Out.seq_bk, Out.seq_ct, Out.seq_exc, Out.seq_stuck, Out.back_nx, Out.back_rt, Out.back_exc, Out.turn_nx, Out.turn_rt, Out.turn_ct, Out.turn_bk, List.getElem?_cons_zero, List.getElem?_cons_succ, List.set_cons_zero, List.set_cons_succ, List.cons_append, List.nil_append, List.map_cons, List.map_nil, List.replicate, List.length_cons, List.length_nil, if_true, if_false, Bool.false_eq_true, opLen, opAdd, opSub, opIx, Sw_len, Sw_add, Sw_cut, Sw_cps, Its.grab, Its.free, Nat.zero_add, Nat.sub_zero, Nat.reduceAdd, Nat.reduceSub, atI_one, e]
    · have e : L2.atI [dw u, dw v] ((at_ : Nat) : Int) = some (dw one) := by
        have h0 : ¬ (1 : Nat) = 0 := by omega
        simp only [one, h, h0, if_false]; rfl
      simp only [fVar, fC, fFn, fBin, fIx, fSl, rdSl, opSl, fPart, partV, fNo, fNil, fCons, dArg, argv_sh, argv_fr, argv_bo, argv_sc, argv_fn, fNilD, fConsD, frz_sh, frz_fr, rd_sh, rd_fr, rdS_sh, rdS_fr, rdS_sc, rdS_bo, rdSs_nil', rdSs_sh, rdSs_sc, Option.map_some, rd2_sh, rdI_sh, fLst, fTup, lstV, tupV, fCB, rdC, fIsi, isiV, fCall, dIf, fSeq, fRet, fRetN, fNx, fCt, fBk, leave, fTru, tru, fBool, boolV, tAnd', tOr', tNot', opMul_l, opMul_r, opFdiv_p, opMod_p, Int.reduceLT, Int.reduceNeg, Int.reduceAdd, Int.reduceSub, Int.reduceMul, vAnd_eq, vOr_eq, andV_bool, orV_bool, bind_ite, seq_ite, turn_ite, rtOf_ite, rtOf_rt, rtOf_nx, opEq_int, opNe_int, opEq_str, opNe_str, opLt_int, opGt_int, opLe_int, opGe_int, isi_int_none, isi_int_bool, isi_int_int, isi_int_str, isi_int_list, isi_int_tuple, isi_bool_none, isi_bool_bool, isi_bool_int, isi_bool_str, isi_bool_list, isi_bool_tuple, isi_str_none, isi_str_bool, isi_str_int, isi_str_str, isi_str_list, isi_str_tuple, isi_list_none, isi_list_bool, isi_list_int, isi_list_str, isi_list_list, isi_list_tuple, isi_tuple_none, isi_tuple_bool, isi_tuple_int, isi_tuple_str, isi_tuple_list, isi_tuple_tuple, vNot, vIf, fIsN, isNV, isN, fChain_eq, truD, decide_true, decide_false, Bool.not_true, Bool.not_false, decide_eq_true_eq, Int.cast_ofNat_Int, Int.reduceLE, Int.reduceEq, Int.reduceToNat, not_true_eq_false, not_false_eq_true, Bool.true_eq_false, dSet, dSto, stS, dSetM, dMv, dAsg, gN, gT, gCons, gNil, gSubL, dPar, stosP, stoP, fConsP, dExpr, fYes, fIr, dFor, dIt, fItems, itemsOf, fApp, appV, fMt_eq, fMt0_eq, mtS_str, mtS0_str, opS_some, tyName, dSub, subV, isOw, fMut, fMut0, mutV, fExt, extV, Out.bind_ok, Out.bind_exc, Out.bind_stuck, Out.seq_nx, Out.seq_rt, Out.seq_bk, Out.seq_ct, Out.seq_exc, Out.seq_stuck, Out.back_nx, Out.back_rt, Out.back_exc, Out.turn_nx, Out.turn_rt, Out.turn_ct, Out.turn_bk, List.getElem?_cons_zero, List.getElem?_cons_succ, List.set_cons_zero, List.set_cons_succ, List.cons_append, List.nil_append, List.map_cons, List.map_nil, List.replicate, List.length_cons, List.length_nil, if_true, if_false, Bool.false_eq_true, opLen, opAdd, opSub, opIx, Sw_len, Sw_add, Sw_cut, Sw_cps, Its.grab, Its.free, Nat.zero_add, Nat.sub_zero, Nat.reduceAdd, Nat.reduceSub, atI_one, e]
  refine seq_step (fun o => rtOf o = _) [some (.sc ns), some (.ow false p2), some (.ow false l1), some (.sh (imD u v)), some (.sh (natD at_)), some (.sh (dw one)), some (.sh (natD pl)), none, none, none, none, none] ?_ ?_
  · have c1 : dCallN 2 g__law_draw [.bo 2, .sh (natD one.length)] [some (.sc ns), some (.ow false p2), some (.ow false l0), some (.sh (imD u v)), some (.sh (natD at_)), some (.sh (dw one)), none, none, none, none, none, none] = .ok (.sh (natD pl)) [some (.sc ns), some (.ow false p2), some (.ow false l1), some (.sh (imD u v)), some (.sh (natD at_)), some (.sh (dw one)), none, none, none, none, none, none] := callP1 gl1 rfl
    have e2 : natD one.length = .int (one.length : Int) := rfl
    rw [e2] at c1
    simp only [fVar, fC, fFn, fBin, fIx, fSl, rdSl, opSl, fPart, partV, fNo, fNil, fCons, dArg, argv_sh, argv_fr, argv_bo, argv_sc, argv_fn, fNilD, fConsD, frz_sh, frz_fr, rd_sh, rd_fr, rdS_sh, rdS_fr, rdS_sc, rdS_bo, rdSs_nil', rdSs_sh, rdSs_sc, Option.map_some, rd2_sh, rdI_sh, fLst, fTup, lstV, tupV, fCB, rdC, fIsi, isiV, fCall, dIf, fSeq, fRet, fRetN, fNx, fCt, fBk, leave, fTru, tru, fBool, boolV, tAnd', tOr', tNot', opMul_l, opMul_r, opFdiv_p, opMod_p, Int.reduceLT, Int.reduceNeg, Int.reduceAdd, Int.reduceSub, Int.reduceMul, vAnd_eq, vOr_eq, andV_bool, orV_bool, bind_ite, seq_ite, turn_ite, rtOf_ite, rtOf_rt, rtOf_nx, opEq_int, opNe_int, opEq_str, opNe_str, opLt_int, opGt_int, opLe_int, opGe_int, isi_int_none, isi_int_bool, isi_int_int, isi_int_str, isi_int_list, isi_int_tuple, isi_bool_none, isi_bool_bool, isi_bool_int, isi_bool_str, isi_bool_list, isi_bool_tuple, isi_str_none, isi_str_bool, isi_str_int, isi_str_str, isi_str_list, isi_str_tuple, isi_list_none, isi_list_bool, isi_list_int, isi_list_str, isi_list_list, isi_list_tuple, isi_tuple_none, isi_tuple_bool, isi_tuple_int, isi_tuple_str, isi_tuple_list, isi_tuple_tuple, vNot, vIf, fIsN, isNV, isN, fChain_eq, truD, decide_true, decide_false, Bool.not_true, Bool.not_false, decide_eq_true_eq, Int.cast_ofNat_Int, Int.reduceLE, Int.reduceEq, Int.reduceToNat, not_true_eq_false, not_false_eq_true, Bool.true_eq_false, dSet, dSto, stS, dSetM, dMv, dAsg, gN, gT, gCons, gNil, gSubL, dPar, stosP, stoP, fConsP, dExpr, fYes, fIr, dFor, dIt, fItems, itemsOf, fApp, appV, fMt_eq, fMt0_eq, mtS_str, mtS0_str, opS_some, tyName, dSub, subV, isOw, fMut, fMut0, mutV, fExt, extV, Out.bind_ok, Out.bind_exc, Out.bind_stuck, Out.seq_nx, Out.seq_rt, Out.seq_bk, Out.seq_ct, Out.seq_exc, Out.seq_stuck, Out.back_nx, Out.back_rt, Out.back_exc, Out.turn_nx, Out.turn_rt, Out.turn_ct, Out.turn_bk, List.getElem?_cons_zero, List.getElem?_cons_succ, List.set_cons_zero, List.set_cons_succ, List.cons_append, List.nil_append, List.map_cons, List.map_nil, List.replicate, List.length_cons, List.length_nil, if_true, if_false, Bool.false_eq_true, opLen, opAdd, opSub, opIx, Sw_len, Sw_add, Sw_cut, Sw_cps, Its.grab, Its.free, Nat.zero_add, Nat.sub_zero, Nat.reduceAdd, Nat.reduceSub, ar_bo, c1]
  refine seq_step (fun o => rtOf o = _) [some (.sc ns), some (.ow false p2), some (.ow false l1), some (.sh (imD u v)), some (.sh (natD at_)), some (.sh (dw one)), some (.sh (natD pl)), some (.sh (dw (bentAt one pl))), none, none, none, none] (law_bent one hpl hone.2.2 hone.1 _ _ _ _ _) ?_
  refine seq_step (fun o => rtOf o = _) [some (.sc ns), some (.ow false p2), some (.ow false l1), some (.sh (imD u v)), some (.sh (natD at_)), some (.sh (dw one)), some (.sh (natD pl)), some (.sh (dw (bentAt one pl))), some (.sh (imD bu bv)), none, none, none] ?_ ?_
  · have q : fLc (fIr enumV (fCons (fIx (fVar 3) (fC (.int 1))) (fNil))) (gT 2 (gCons (gN 10) (gCons (gN 9) (gNil)))) (fYes) (vIf (fBool (fBin opEq (fVar 10) (fVar 4))) (fVar 7) (fVar 9)) [10, 9] [some (.sc ns), some (.ow false p2), some (.ow false l1), some (.sh (imD u v)), some (.sh (natD at_)), some (.sh (dw one)), some (.sh (natD pl)), some (.sh (dw (bentAt one pl))), none, none, none, none] = .ok (.fr [dw bu, dw bv]) [some (.sc ns), some (.ow false p2), some (.ow false l1), some (.sh (imD u v)), some (.sh (natD at_)), some (.sh (dw one)), some (.sh (natD pl)), some (.sh (dw (bentAt one pl))), none, none, none, none] := by
      rw [fLc_map (ds := [.tuple [.int 0, dw u], .tuple [.int 1, dw v]]) (fun d => match d with | .tuple (.int 0 :: _) => dw bu | _ => dw bv) ?_ ?_ ?_ ?_]
      · rfl
      · unfold imD
        simp only [fVar, fC, fFn, fBin, fIx, fSl, rdSl, opSl, fPart, partV, fNo, fNil, fCons, dArg, argv_sh, argv_fr, argv_bo, argv_sc, argv_fn, fNilD, fConsD, frz_sh, frz_fr, rd_sh, rd_fr, rdS_sh, rdS_fr, rdS_sc, rdS_bo, rdSs_nil', rdSs_sh, rdSs_sc, Option.map_some, rd2_sh, rdI_sh, fLst, fTup, lstV, tupV, fCB, rdC, fIsi, isiV, fCall, dIf, fSeq, fRet, fRetN, fNx, fCt, fBk, leave, fTru, tru, fBool, boolV, tAnd', tOr', tNot', opMul_l, opMul_r, opFdiv_p, opMod_p, Int.reduceLT, Int.reduceNeg, Int.reduceAdd, Int.reduceSub, Int.reduceMul, vAnd_eq, vOr_eq, andV_bool, orV_bool, bind_ite, seq_ite, turn_ite, rtOf_ite, rtOf_rt, rtOf_nx, opEq_int, opNe_int, opEq_str, opNe_str, opLt_int, opGt_int, opLe_int, opGe_int, isi_int_none, isi_int_bool, isi_int_int, isi_int_str, isi_int_list, isi_int_tuple, isi_bool_none, isi_bool_bool, isi_bool_int, isi_bool_str, isi_bool_list, isi_bool_tuple, isi_str_none, isi_str_bool, isi_str_int, isi_str_str, isi_str_list, isi_str_tuple, isi_list_none, isi_list_bool, isi_list_int, isi_list_str, isi_list_list, isi_list_tuple, isi_tuple_none, isi_tuple_bool, isi_tuple_int, isi_tuple_str, isi_tuple_list, isi_tuple_tuple, vNot, vIf, fIsN, isNV, isN, fChain_eq, truD, decide_true, decide_false, Bool.not_true, Bool.not_false, decide_eq_true_eq, Int.cast_ofNat_Int, Int.reduceLE, Int.reduceEq, Int.reduceToNat, not_true_eq_false, not_false_eq_true, Bool.true_eq_false, dSet, dSto, stS, dSetM, dMv, dAsg, gN, gT, gCons, gNil, gSubL, dPar, stosP, stoP, fConsP, dExpr, fYes, fIr, dFor, dIt, fItems, itemsOf, fApp, appV, fMt_eq, fMt0_eq, mtS_str, mtS0_str, opS_some, tyName, dSub, subV, isOw, fMut, fMut0, mutV, fExt, extV, Out.bind_ok, Out.bind_exc, Out.bind_stuck, Out.seq_nx, Out.seq_rt, Out.seq_bk, Out.seq_ct, Out.seq_exc, Out.seq_stuck, Out.back_nx, Out.back_rt, Out.back_exc, Out.turn_nx, Out.turn_rt, Out.turn_ct, Out.turn_bk, List.getElem?_cons_zero, List.getElem?_cons_succ, List.set_cons_zero, List.set_cons_succ, List.cons_append, List.nil_append, List.map_cons, List.map_nil, List.replicate, List.length_cons, List.length_nil, if_true, if_false, Bool.false_eq_true, opLen, opAdd, opSub, opIx, Sw_len, Sw_add, Sw_cut, Sw_cps, Its.grab, Its.free, Nat.zero_add, Nat.sub_zero, Nat.reduceAdd, Nat.reduceSub, atI_one, enum_pair]
      · rfl
      · exact hz1
      · intro d hd
        simp only [List.mem_cons, List.not_mem_nil, or_false] at hd
        rcases hd with rfl | rfl
        · refine ⟨[some (.sc ns), some (.ow false p2), some (.ow false l1), some (.sh (imD u v)), some (.sh (natD at_)), some (.sh (dw one)), some (.sh (natD pl)), some (.sh (dw (bentAt one pl))), none, some (.sh (dw u)), some (.sh (.int 0)), none], rfl, rfl, ?_⟩
          unfold natD
          simp only [fVar, fC, fFn, fBin, fIx, fSl, rdSl, opSl, fPart, partV, fNo, fNil, fCons, dArg, argv_sh, argv_fr, argv_bo, argv_sc, argv_fn, fNilD, fConsD, frz_sh, frz_fr, rd_sh, rd_fr, rdS_sh, rdS_fr, rdS_sc, rdS_bo, rdSs_nil', rdSs_sh, rdSs_sc, Option.map_some, rd2_sh, rdI_sh, fLst, fTup, lstV, tupV, fCB, rdC, fIsi, isiV, fCall, dIf, fSeq, fRet, fRetN, fNx, fCt, fBk, leave, fTru, tru, fBool, boolV, tAnd', tOr', tNot', opMul_l, opMul_r, opFdiv_p, opMod_p, Int.reduceLT, Int.reduceNeg, Int.reduceAdd, Int.reduceSub, Int.reduceMul, vAnd_eq, vOr_eq, andV_bool, orV_bool, bind_ite, seq_ite, turn_ite, rtOf_ite, rtOf_rt, rtOf_nx, opEq_int, opNe_int, opEq_str, opNe_str, opLt_int, opGt_int, opLe_int, opGe_int, isi_int_none, isi_int_bool, isi_int_int, isi_int_str, isi_int_list, isi_int_tuple, isi_bool_none, isi_bool_bool, isi_bool_int, isi_bool_str, isi_bool_list, isi_bool_tuple, isi_str_none, isi_str_bool, isi_str_int, isi_str_str, isi_str_list, isi_str_tuple, isi_list_none, isi_list_bool, isi_list_int, isi_list_str, isi_list_list, isi_list_tuple, isi_tuple_none, isi_tuple_bool, isi_tuple_int, isi_tuple_str, isi_tuple_list, isi_tuple_tuple, vNot, vIf, fIsN, isNV, isN, fChain_eq, truD, decide_true, decide_false, Bool.not_true, Bool.not_false, decide_eq_true_eq, Int.cast_ofNat_Int, Int.reduceLE, Int.reduceEq, Int.reduceToNat, not_true_eq_false, not_false_eq_true, Bool.true_eq_false, dSet, dSto, stS, dSetM, dMv, dAsg, gN, gT, gCons, gNil, gSubL, dPar, stosP, stoP, fConsP, dExpr, fYes, fIr, dFor, dIt, fItems, itemsOf, fApp, appV, fMt_eq, fMt0_eq, mtS_str, mtS0_str, opS_some, tyName, dSub, subV, isOw, fMut, fMut0, mutV, fExt, extV, Out.bind_ok, Out.bind_exc, Out.bind_stuck, Out.seq_nx, Out.seq_rt, Out.seq_bk, Out.seq_ct, Out.seq_exc, Out.seq_stuck, Out.back_nx, Out.back_rt, Out.back_exc, Out.turn_nx, Out.turn_rt, Out.turn_ct, Out.turn_bk, List.getElem?_cons_zero, List.getElem?_cons_succ, List.set_cons_zero, List.set_cons_succ, List.cons_append, List.nil_append, List.map_cons, List.map_nil, List.replicate, List.length_cons, List.length_nil, if_true, if_false, Bool.false_eq_true, opLen, opAdd, opSub, opIx, Sw_len, Sw_add, Sw_cut, Sw_cps, Its.grab, Its.free, Nat.zero_add, Nat.sub_zero, Nat.reduceAdd, Nat.reduceSub]
          by_cases h : at_ = 0
          · have h' : (0 : Int) = at_ := by omega
            rw [if_pos h']
            simp only [bu, h, if_true]
          · have h' : ¬ (0 : Int) = at_ := by omega
            rw [if_neg h']
            simp only [bu, h, if_false]
        · refine ⟨[some (.sc ns), some (.ow false p2), some (.ow false l1), some (.sh (imD u v)), some (.sh (natD at_)), some (.sh (dw one)), some (.sh (natD pl)), some (.sh (dw (bentAt one pl))), none, some (.sh (dw v)), some (.sh (.int 1)), none], rfl, rfl, ?_⟩
          unfold natD
          simp only [fVar, fC, fFn, fBin, fIx, fSl, rdSl, opSl, fPart, partV, fNo, fNil, fCons, dArg, argv_sh, argv_fr, argv_bo, argv_sc, argv_fn, fNilD, fConsD, frz_sh, frz_fr, rd_sh, rd_fr, rdS_sh, rdS_fr, rdS_sc, rdS_bo, rdSs_nil', rdSs_sh, rdSs_sc, Option.map_some, rd2_sh, rdI_sh, fLst, fTup, lstV, tupV, fCB, rdC, fIsi, isiV, fCall, dIf, fSeq, fRet, fRetN, fNx, fCt, fBk, leave, fTru, tru, fBool, boolV, tAnd', tOr', tNot', opMul_l, opMul_r, opFdiv_p, opMod_p, Int.reduceLT, Int.reduceNeg, Int.reduceAdd, Int.reduceSub, Int.reduceMul, vAnd_eq, vOr_eq, andV_bool, orV_bool, bind_ite, seq_ite, turn_ite, rtOf_ite, rtOf_rt, rtOf_nx, opEq_int, opNe_int, opEq_str, opNe_str, opLt_int, opGt_int, opLe_int, opGe_int, isi_int_none, isi_int_bool, isi_int_int, isi_int_str, isi_int_list, isi_int_tuple, isi_bool_none, isi_bool_bool, isi_bool_int, isi_bool_str, isi_bool_list, isi_bool_tuple, isi_str_none, isi_str_bool, isi_str_int, isi_str_str, isi_str_list, isi_str_tuple, isi_list_none, isi_list_bool, isi_list_int, isi_list_str, isi_list_list, isi_list_tuple, isi_tuple_none, isi_tuple_bool, isi_tuple_int, isi_tuple_str, isi_tuple_list, isi_tuple_tuple, vNot, vIf, fIsN, isNV, isN, fChain_eq, truD, decide_true, decide_false, Bool.not_true, Bool.not_false, decide_eq_true_eq, Int.cast_ofNat_Int, Int.reduceLE, Int.reduceEq, Int.reduceToNat, not_true_eq_false, not_false_eq_true, Bool.true_eq_false, dSet, dSto, stS, dSetM, dMv, dAsg, gN, gT, gCons, gNil, gSubL, dPar, stosP, stoP, fConsP, dExpr, fYes, fIr, dFor, dIt, fItems, itemsOf, fApp, appV, fMt_eq, fMt0_eq, mtS_str, mtS0_str, opS_some, tyName, dSub, subV, isOw, fMut, fMut0, mutV, fExt, extV, Out.bind_ok, Out.bind_exc, Out.bind_stuck, Out.seq_nx, Out.seq_rt, Out.seq_bk, Out.seq_ct, Out.seq_exc, Out.seq_stuck, Out.back_nx, Out.back_rt, Out.back_exc, Out.turn_nx, Out.turn_rt, Out.turn_ct, Out.turn_bk, List.getElem?_cons_zero, List.getElem?_cons_succ, List.set_cons_zero, List.set_cons_succ, List.cons_append, List.nil_append, List.map_cons, List.map_nil, List.replicate, List.length_cons, List.length_nil, if_true, if_false, Bool.false_eq_true, opLen, opAdd, opSub, opIx, Sw_len, Sw_add, Sw_cut, Sw_cps, Its.grab, Its.free, Nat.zero_add, Nat.sub_zero, Nat.reduceAdd, Nat.reduceSub]
          by_cases h : at_ = 0
          · have h' : ¬ (1 : Int) = at_ := by omega
            rw [if_neg h']
            simp only [bv, h, if_true]
          · have h' : (1 : Int) = at_ := by omega
            rw [if_pos h']
            simp only [bv, h, if_false]
    have ht : ∀ ρ, opTuple [.list [dw bu, dw bv]] ρ = .ok (.sh (.tuple [dw bu, dw bv])) ρ := fun _ => rfl
    generalize fLc (fIr enumV (fCons (fIx (fVar 3) (fC (.int 1))) (fNil))) (gT 2 (gCons (gN 10) (gCons (gN 9) (gNil)))) (fYes) (vIf (fBool (fBin opEq (fVar 10) (fVar 4))) (fVar 7) (fVar 9)) [10, 9] = F at q ⊢
    simp only [fVar, fC, fFn, fBin, fIx, fSl, rdSl, opSl, fPart, partV, fNo, fNil, fCons, dArg, argv_sh, argv_fr, argv_bo, argv_sc, argv_fn, fNilD, fConsD, frz_sh, frz_fr, rd_sh, rd_fr, rdS_sh, rdS_fr, rdS_sc, rdS_bo, rdSs_nil', rdSs_sh, rdSs_sc, Option.map_some, rd2_sh, rdI_sh, fLst, fTup, lstV, tupV, fCB, rdC, fIsi, isiV, fCall, dIf, fSeq, fRet, fRetN, fNx, fCt, fBk, leave, fTru, tru, fBool, boolV, tAnd', tOr', tNot', opMul_l, opMul_r, opFdiv_p, opMod_p, Int.reduceLT, Int.reduceNeg, Int.reduceAdd, Int.reduceSub, Int.reduceMul, vAnd_eq, vOr_eq, andV_bool, orV_bool, bind_ite, seq_ite, turn_ite, rtOf_ite, rtOf_rt, rtOf_nx, opEq_int, opNe_int, opEq_str, opNe_str, opLt_int, opGt_int, opLe_int, opGe_int, isi_int_none, isi_int_bool, isi_int_int, isi_int_str, isi_int_list, isi_int_tuple, isi_bool_none, isi_bool_bool, isi_bool_int, isi_bool_str, isi_bool_list, isi_bool_tuple, isi_str_none, isi_str_bool, isi_str_int, isi_str_str, isi_str_list, isi_str_tuple, isi_list_none, isi_list_bool, isi_list_int, isi_list_str, isi_list_list, isi_list_tuple, isi_tuple_none, isi_tuple_bool, isi_tuple_int, isi_tuple_str, isi_tuple_list, isi_tuple_tuple, vNot, vIf, fIsN, isNV, isN, fChain_eq, truD, decide_true, decide_false, Bool.not_true, Bool.not_false, decide_eq_true_eq, Int.cast_ofNat_Int, Int.reduceLE, Int.reduceEq, Int.reduceToNat, not_true_eq_false, not_false_eq_true, Bool.true_eq_false, dSet, dSto, stS, dSetM, dMv, dAsg, gN, gT, gCons, gNil, gSubL, dPar, stosP, stoP, fConsP, dExpr, fYes, fIr, dFor, dIt, fItems, itemsOf, fApp, appV, fMt_eq, fMt0_eq, mtS_str, mtS0_str, opS_some, tyName, dSub, subV, isOw, fMut, fMut0, mutV, fExt, extV, Out.bind_ok, Out.bind_exc, Out.bind_stuck, Out.seq_nx, Out.seq_rt, Out.seq_bk, Out.seq_ct, Out.seq_exc, Out.seq_stuck, Out.back_nx, Out.back_rt, Out.back_exc, Out.turn_nx, Out.turn_rt, Out.turn_ct, Out.turn_bk, List.getElem?_cons_zero, List.getElem?_cons_succ, List.set_cons_zero, List.set_cons_succ, List.cons_append, List.nil_append, List.map_cons, List.map_nil, List.replicate, List.length_cons, List.length_nil, if_true, if_false, Bool.false_eq_true, opLen, opAdd, opSub, opIx, Sw_len, Sw_add, Sw_cut, Sw_cps, Its.grab, Its.free, Nat.zero_add, Nat.sub_zero, Nat.reduceAdd, Nat.reduceSub, q, ht, lit_images, hz1]
    rfl
  have hlist : ∀ x ∈ [(u, v), (bu, bv), (u3, v3), (u4, v4)], Ok x.1 x.2 ∧ goodP x.1 x.2 = true := by
    intro x hx
    simp only [List.mem_cons, List.not_mem_nil, or_false] at hx
    rcases hx with rfl | rfl | rfl | rfl
    · exact ⟨okr, gdr⟩
    · exact hbent
    · exact word_good hu3 hv3
    · exact word_good ⟨hu4.1, hu4.2.1, Nat.le_trans hu4.2.2 (by omega)⟩ ⟨hv4.1, hv4.2.1, Nat.le_trans hv4.2.2 (by omega)⟩
  generalize hvals : [imD u v, imD bu bv, imD u3 v3, imD u4 v4] = vals
  have hvm : ∀ d ∈ vals, ∃ a b : List Nat, d = imD a b ∧ Ok a b ∧ goodP a b = true := by
    intro d hd
    rw [← hvals] at hd
    simp only [List.mem_cons, List.not_mem_nil, or_false] at hd
    rcases hd with rfl | rfl | rfl | rfl
    · exact ⟨_, _, rfl, hlist (u, v) (by simp)⟩
    · exact ⟨_, _, rfl, hlist (bu, bv) (by simp)⟩
    · exact ⟨_, _, rfl, hlist (u3, v3) (by simp)⟩
    · exact ⟨_, _, rfl, hlist (u4, v4) (by simp)⟩
  have hvl : vals.length ≤ sizeLine := by rw [← hvals]; exact hz4
  refine seq_step (fun o => rtOf o = _) [some (.sc ns), some (.ow false p3), some (.ow false l2), some (.sh (imD u v)), some (.sh (natD at_)), some (.sh (dw one)), some (.sh (natD pl)), some (.sh (dw (bentAt one pl))), some (.sh (imD bu bv)), some (.ow false vals), none, none] ?_ ?_
  · have c1 : dCallN 3 g__law_images [.bo 1, .sh (.int 2), .sh (.int 4)] [some (.sc ns), some (.ow false p2), some (.ow false l1), some (.sh (imD u v)), some (.sh (natD at_)), some (.sh (dw one)), some (.sh (natD pl)), some (.sh (dw (bentAt one pl))), some (.sh (imD bu bv)), none, none, none] = .ok (.sh (imD u3 v3)) [some (.sc ns), some (.ow false p3), some (.ow false l1), some (.sh (imD u v)), some (.sh (natD at_)), some (.sh (dw one)), some (.sh (natD pl)), some (.sh (dw (bentAt one pl))), some (.sh (imD bu bv)), none, none, none] := callP2 gp3 rfl
    have c2 : dCallN 3 g__law_images [.bo 2, .sh (.int 2), .sh (.int 2)] [some (.sc ns), some (.ow false p3), some (.ow false l1), some (.sh (imD u v)), some (.sh (natD at_)), some (.sh (dw one)), some (.sh (natD pl)), some (.sh (dw (bentAt one pl))), some (.sh (imD bu bv)), none, none, none] = .ok (.sh (imD u4 v4)) [some (.sc ns), some (.ow false p3), some (.ow false l2), some (.sh (imD u v)), some (.sh (natD at_)), some (.sh (dw one)), some (.sh (natD pl)), some (.sh (dw (bentAt one pl))), some (.sh (imD bu bv)), none, none, none] := callP2 gl2 rfl
    rw [← hvals]
    simp only [fVar, fC, fFn, fBin, fIx, fSl, rdSl, opSl, fPart, partV, fNo, fNil, fCons, dArg, argv_sh, argv_fr, argv_bo, argv_sc, argv_fn, fNilD, fConsD, frz_sh, frz_fr, rd_sh, rd_fr, rdS_sh, rdS_fr, rdS_sc, rdS_bo, rdSs_nil', rdSs_sh, rdSs_sc, Option.map_some, rd2_sh, rdI_sh, fLst, fTup, lstV, tupV, fCB, rdC, fIsi, isiV, fCall, dIf, fSeq, fRet, fRetN, fNx, fCt, fBk, leave, fTru, tru, fBool, boolV, tAnd', tOr', tNot', opMul_l, opMul_r, opFdiv_p, opMod_p, Int.reduceLT, Int.reduceNeg, Int.reduceAdd, Int.reduceSub, Int.reduceMul, vAnd_eq, vOr_eq, andV_bool, orV_bool, bind_ite, seq_ite, turn_ite, rtOf_ite, rtOf_rt, rtOf_nx, opEq_int, opNe_int, opEq_str, opNe_str, opLt_int, opGt_int, opLe_int, opGe_int, isi_int_none, isi_int_bool, isi_int_int, isi_int_str, isi_int_list, isi_int_tuple, isi_bool_none, isi_bool_bool, isi_bool_int, isi_bool_str, isi_bool_list, isi_bool_tuple, isi_str_none, isi_str_bool, isi_str_int, isi_str_str, isi_str_list, isi_str_tuple, isi_list_none, isi_list_bool, isi_list_int, isi_list_str, isi_list_list, isi_list_tuple, isi_tuple_none, isi_tuple_bool, isi_tuple_int, isi_tuple_str, isi_tuple_list, isi_tuple_tuple, vNot, vIf, fIsN, isNV, isN, fChain_eq, truD, decide_true, decide_false, Bool.not_true, Bool.not_false, decide_eq_true_eq, Int.cast_ofNat_Int, Int.reduceLE, Int.reduceEq, Int.reduceToNat, not_true_eq_false, not_false_eq_true, Bool.true_eq_false, dSet, dSto, stS, dSetM, dMv, dAsg, gN, gT, gCons, gNil, gSubL, dPar, stosP, stoP, fConsP, dExpr, fYes, fIr, dFor, dIt, fItems, itemsOf, fApp, appV, fMt_eq, fMt0_eq, mtS_str, mtS0_str, opS_some, tyName, dSub, subV, isOw, fMut, fMut0, mutV, fExt, extV, Out.bind_ok, Out.bind_exc, Out.bind_stuck, Out.seq_nx, Out.seq_rt, Out.seq_bk, Out.seq_ct, Out.seq_exc, Out.seq_stuck, Out.back_nx, Out.back_rt, Out.back_exc, Out.turn_nx, Out.turn_rt, Out.turn_ct, Out.turn_bk, List.getElem?_cons_zero, List.getElem?_cons_succ, List.set_cons_zero, List.set_cons_succ, List.cons_append, List.nil_append, List.map_cons, List.map_nil, List.replicate, List.length_cons, List.length_nil, if_true, if_false, Bool.false_eq_true, opLen, opAdd, opSub, opIx, Sw_len, Sw_add, Sw_cut, Sw_cps, Its.grab, Its.free, Nat.zero_add, Nat.sub_zero, Nat.reduceAdd, Nat.reduceSub, ar_bo, c1, c2, hz4]
  let R : DL.Env → Prop := fun e => ∃ ds, PotL ds ∧ e = [some (.sc ns), some (.ow false p3), some (.ow false ds), some (.sh (imD u v)), some (.sh (natD at_)), some (.sh (dw one)), some (.sh (natD pl)), some (.sh (dw (bentAt one pl))), some (.sh (imD bu bv)), some (.ow true vals), none, none]
  obtain ⟨ys, ρf, q1, q2, q3⟩ := fLc_drawO (fi := dIt (fVar 9)) (g := gN 11) (fe := fCall 2 g__law_one_right (fCons (fVar 2) (fCons (fVar 11) (fNil)))) (vs := [11]) (ρ := [some (.sc ns), some (.ow false p3), some (.ow false l2), some (.sh (imD u v)), some (.sh (natD at_)), some (.sh (dw one)), some (.sh (natD pl)), some (.sh (dw (bentAt one pl))), some (.sh (imD bu bv)), some (.ow false vals), none, none])
    (ρ1 := [some (.sc ns), some (.ow false p3), some (.ow false l2), some (.sh (imD u v)), some (.sh (natD at_)), some (.sh (dw one)), some (.sh (natD pl)), some (.sh (dw (bentAt one pl))), some (.sh (imD bu bv)), some (.ow false vals), none, none]) (ds := vals) (chk := some (9, false, vals)) R (fun _ y => y = .bool true) rfl rfl hvl (by rintro e ⟨ds, _, rfl⟩; exact sameL_refl _) ⟨l2, hl2, rfl⟩ (by
    rintro d hd e ⟨ds, hds, rfl⟩
    obtain ⟨a, b, rfl, hok, hgd⟩ := hvm d hd
    obtain ⟨ds', hds', hgv⟩ := law_one_right hok hgd hds
    refine ⟨[some (.sc ns), some (.ow false p3), some (.ow false ds), some (.sh (imD u v)), some (.sh (natD at_)), some (.sh (dw one)), some (.sh (natD pl)), some (.sh (dw (bentAt one pl))), some (.sh (imD bu bv)), some (.ow true vals), none, some (.sh (imD a b))], .bool true, [some (.sc ns), some (.ow false p3), some (.ow false ds'), some (.sh (imD u v)), some (.sh (natD at_)), some (.sh (dw one)), some (.sh (natD pl)), some (.sh (dw (bentAt one pl))), some (.sh (imD bu bv)), some (.ow true vals), none, some (.sh (imD a b))], rfl, ?_, rfl, ⟨ds', hds', rfl⟩⟩
    have c1 : dCallN 2 g__law_one_right [.bo 2, .sh (imD a b)] [some (.sc ns), some (.ow false p3), some (.ow false ds), some (.sh (imD u v)), some (.sh (natD at_)), some (.sh (dw one)), some (.sh (natD pl)), some (.sh (dw (bentAt one pl))), some (.sh (imD bu bv)), some (.ow true vals), none, some (.sh (imD a b))] = .ok (.sh (.bool true)) [some (.sc ns), some (.ow false p3), some (.ow false ds'), some (.sh (imD u v)), some (.sh (natD at_)), some (.sh (dw one)), some (.sh (natD pl)), some (.sh (dw (bentAt one pl))), some (.sh (imD bu bv)), some (.ow true vals), none, some (.sh (imD a b))] := callP1 hgv rfl
    simp only [fVar, fC, fFn, fBin, fIx, fSl, rdSl, opSl, fPart, partV, fNo, fNil, fCons, dArg, argv_sh, argv_fr, argv_bo, argv_sc, argv_fn, fNilD, fConsD, frz_sh, frz_fr, rd_sh, rd_fr, rdS_sh, rdS_fr, rdS_sc, rdS_bo, rdSs_nil', rdSs_sh, rdSs_sc, Option.map_some, rd2_sh, rdI_sh, fLst, fTup, lstV, tupV, fCB, rdC, fIsi, isiV, fCall, dIf, fSeq, fRet, fRetN, fNx, fCt, fBk, leave, fTru, tru, fBool, boolV, tAnd', tOr', tNot', opMul_l, opMul_r, opFdiv_p, opMod_p, Int.reduceLT, Int.reduceNeg, Int.reduceAdd, Int.reduceSub, Int.reduceMul, vAnd_eq, vOr_eq, andV_bool, orV_bool, bind_ite, seq_ite, turn_ite, rtOf_ite, rtOf_rt, rtOf_nx, opEq_int, opNe_int, opEq_str, opNe_str, opLt_int, opGt_int, opLe_int, opGe_int, isi_int_none, isi_int_bool, isi_int_int, isi_int_str, isi_int_list, isi_int_tuple, isi_bool_none, isi_bool_bool, isi_bool_int, isi_bool_str, isi_bool_list, isi_bool_tuple, isi_str_none, isi_str_bool, isi_str_int, isi_str_str, isi_str_list, isi_str_tuple, isi_list_none, isi_list_bool, isi_list_int, isi_list_str, isi_list_list, isi_list_tuple, isi_tuple_none, isi_tuple_bool, isi_tuple_int, isi_tuple_str, isi_tuple_list, isi_tuple_tuple, vNot, vIf, fIsN, isNV, isN, fChain_eq, truD, decide_true, decide_false, Bool.not_true, Bool.not_false, decide_eq_true_eq, Int.cast_ofNat_Int, Int.reduceLE, Int.reduceEq, Int.reduceToNat, not_true_eq_false, not_false_eq_true, Bool.true_eq_false, dSet, dSto, stS, dSetM, dMv, dAsg, gN, gT, gCons, gNil, gSubL, dPar, stosP, stoP, fConsP, dExpr, fYes, fIr, dFor, dIt, fItems, itemsOf, fApp, appV, fMt_eq, fMt0_eq, mtS_str, mtS0_str, opS_some, tyName, dSub, subV, isOw, fMut, fMut0, mutV, fExt, extV, Out.bind_ok, Out.bind_exc, Out.bind_stuck, Out.seq_nx, Out.seq_rt, Out.seq_bk, Out.seq_ct, Out.seq_exc, Out.seq_stuck, Out.back_nx, Out.back_rt, Out.back_exc, Out.turn_nx, Out.turn_rt, Out.turn_ct, Out.turn_bk, List.getElem?_cons_zero, List.getElem?_cons_succ, List.set_cons_zero, List.set_cons_succ, List.cons_append, List.nil_append, List.map_cons, List.map_nil, List.replicate, List.length_cons, List.length_nil, if_true, if_false, Bool.false_eq_true, opLen, opAdd, opSub, opIx, Sw_len, Sw_add, Sw_cut, Sw_cps, Its.grab, Its.free, Nat.zero_add, Nat.sub_zero, Nat.reduceAdd, Nat.reduceSub, ar_bo, c1])
  have hy := paired_true q1
  generalize fLc (dIt (fVar 9)) (gN 11) (fYes) (fCall 2 g__law_one_right (fCons (fVar 2) (fCons (fVar 11) (fNil)))) [11] = F at q3 ⊢
  generalize Its.free ⟨vals, some (9, false, vals)⟩ _ = ρz at q3
  simp only [fVar, fC, fFn, fBin, fIx, fSl, rdSl, opSl, fPart, partV, fNo, fNil, fCons, dArg, argv_sh, argv_fr, argv_bo, argv_sc, argv_fn, fNilD, fConsD, frz_sh, frz_fr, rd_sh, rd_fr, rdS_sh, rdS_fr, rdS_sc, rdS_bo, rdSs_nil', rdSs_sh, rdSs_sc, Option.map_some, rd2_sh, rdI_sh, fLst, fTup, lstV, tupV, fCB, rdC, fIsi, isiV, fCall, dIf, fSeq, fRet, fRetN, fNx, fCt, fBk, leave, fTru, tru, fBool, boolV, tAnd', tOr', tNot', opMul_l, opMul_r, opFdiv_p, opMod_p, Int.reduceLT, Int.reduceNeg, Int.reduceAdd, Int.reduceSub, Int.reduceMul, vAnd_eq, vOr_eq, andV_bool, orV_bool, bind_ite, seq_ite, turn_ite, rtOf_ite, rtOf_rt, rtOf_nx, opEq_int, opNe_int, opEq_str, opNe_str, opLt_int, opGt_int, opLe_int, opGe_int, isi_int_none, isi_int_bool, isi_int_int, isi_int_str, isi_int_list, isi_int_tuple, isi_bool_none, isi_bool_bool, isi_bool_int, isi_bool_str, isi_bool_list, isi_bool_tuple, isi_str_none, isi_str_bool, isi_str_int, isi_str_str, isi_str_list, isi_str_tuple, isi_list_none, isi_list_bool, isi_list_int, isi_list_str, isi_list_list, isi_list_tuple, isi_tuple_none, isi_tuple_bool, isi_tuple_int, isi_tuple_str, isi_tuple_list, isi_tuple_tuple, vNot, vIf, fIsN, isNV, isN, fChain_eq, truD, decide_true, decide_false, Bool.not_true, Bool.not_false, decide_eq_true_eq, Int.cast_ofNat_Int, Int.reduceLE, Int.reduceEq, Int.reduceToNat, not_true_eq_false, not_false_eq_true, Bool.true_eq_false, dSet, dSto, stS, dSetM, dMv, dAsg, gN, gT, gCons, gNil, gSubL, dPar, stosP, stoP, fConsP, dExpr, fYes, fIr, dFor, dIt, fItems, itemsOf, fApp, appV, fMt_eq, fMt0_eq, mtS_str, mtS0_str, opS_some, tyName, dSub, subV, isOw, fMut, fMut0, mutV, fExt, extV, Out.bind_ok, Out.bind_exc, Out.bind_stuck, Out.seq_nx, Out.seq_rt, Out.seq_bk, Out.seq_ct, Out.seq_exc, Out.seq_stuck, Out.back_nx, Out.back_rt, Out.back_exc, Out.turn_nx, Out.turn_rt, Out.turn_ct, Out.turn_bk, List.getElem?_cons_zero, List.getElem?_cons_succ, List.set_cons_zero, List.set_cons_succ, List.cons_append, List.nil_append, List.map_cons, List.map_nil, List.replicate, List.length_cons, List.length_nil, if_true, if_false, Bool.false_eq_true, opLen, opAdd, opSub, opIx, Sw_len, Sw_add, Sw_cut, Sw_cps, Its.grab, Its.free, Nat.zero_add, Nat.sub_zero, Nat.reduceAdd, Nat.reduceSub, q3, rd_fr1, all_true' ys hy]
theorem law_true (ns : List Int) (hl : ns.length ≤ 63) : ∃ ρ', g_law [some (.sc ns)] = .ok (.sh (.bool true)) ρ' := law_gv ns
end K87
open PySem PySem.W PyProof.Rows
set_option maxHeartbeats 0 in
theorem PySem.Challenge.cw_spelledonce_k87_whole_overlaps_kept_holds : PySem.Challenge.rw_spelledonce_k87_whole_overlaps_kept.Holds := by
  w_on; o_law; k_head; (case hw => w_witness2)
  k_fill
  refine DL.walkG (l := PySem.Challenge.rw_spelledonce_k87_whole_overlaps_kept) (n := 63) (k := 7) (x := "script") (g := K87.g_law) rfl (by decide) rfl ⟨rfl, by decide, by decide⟩ (fun w h Y => PySem.W.kIn_of Y) ?F (fun ns hl => K87.law_true ns hl)
  case F =>
    intro w mg fa h KX G hmg
    refine' K87.all_mk KX G hmg ?a_is_overlap_at ?l_is_overlap_at ?c_is_overlap_at ?k_is_overlap_at ?a_image_of ?l_image_of ?c_image_of ?k_image_of ?a_is_integer ?l_is_integer ?c_is_integer ?k_is_integer ?a_is_count ?l_is_count ?c_is_count ?k_is_count ?a_letters_of ?l_letters_of ?c_letters_of ?k_letters_of ?a_over ?l_over ?c_over ?k_over ?a_images_are_right ?l_images_are_right ?c_images_are_right ?k_images_are_right ?a_check_images ?l_check_images ?c_check_images ?k_check_images ?a_check_two ?l_check_two ?c_check_two ?k_check_two ?a_is_overlap_paper ?l_is_overlap_paper ?c_is_overlap_paper ?k_is_overlap_paper ?a__law_says ?l__law_says ?c__law_says ?k__law_says ?a__law_draw ?l__law_draw ?c__law_draw ?k__law_draw ?a__law_overlap ?l__law_overlap ?c__law_overlap ?k__law_overlap ?a__law_free ?l__law_free ?c__law_free ?k__law_free ?a__law_image ?l__law_image ?c__law_image ?k__law_image ?a__law_rows ?l__law_rows ?c__law_rows ?k__law_rows ?a_long_stretches ?l_long_stretches ?c_long_stretches ?k_long_stretches ?a_root_round ?l_root_round ?c_root_round ?k_root_round ?a_runs_of ?l_runs_of ?c_runs_of ?k_runs_of ?a_letters_asked ?l_letters_asked ?c_letters_asked ?k_letters_asked ?a_first_of ?l_first_of ?c_first_of ?k_first_of ?a_keeps_overlap_free ?l_keeps_overlap_free ?c_keeps_overlap_free ?k_keeps_overlap_free ?a_first_at ?l_first_at ?c_first_at ?k_first_at ?a_overlap_paper ?l_overlap_paper ?c_overlap_paper ?k_overlap_paper ?a__law_one_right ?l__law_one_right ?c__law_one_right ?k__law_one_right ?a__law_pick ?l__law_pick ?c__law_pick ?k__law_pick ?a__law_word ?l__law_word ?c__law_word ?k__law_word ?a__law_images ?l__law_images ?c__law_images ?k__law_images ?a__law_pot ?l__law_pot ?c__law_pot ?k__law_pot ?a_law ?l_law ?c_law ?k_law ?z_abs ?z_all ?z_any ?z_bool ?z_divmod ?z_enumerate ?z_int ?z_isinstance ?z_len ?z_list ?z_max ?z_min ?z_range ?z_repr ?z_sorted ?z_str ?z_tuple ?v_ALL ?v_CUBES ?v_MOST_IMAGE ?v_OVERLAPS ?v_SQUARES ?v_TEST
    (case a_is_overlap_at => k_is)
    (case l_is_overlap_at => k_is)
    (case c_is_overlap_at => k_is)
    (case k_is_overlap_at => k_is)
    (case a_image_of => k_is)
    (case l_image_of => k_is)
    (case c_image_of => k_is)
    (case k_image_of => k_is)
    (case a_is_integer => k_is)
    (case l_is_integer => k_is)
    (case c_is_integer => k_is)
    (case k_is_integer => k_is)
    (case a_is_count => k_is)
    (case l_is_count => k_is)
    (case c_is_count => k_is)
    (case k_is_count => k_is)
    (case a_letters_of => k_is)
    (case l_letters_of => k_is)
    (case c_letters_of => k_is)
    (case k_letters_of => k_is)
    (case a_over => k_is)
    (case l_over => k_is)
    (case c_over => k_is)
    (case k_over => k_is)
    (case a_images_are_right => k_is)
    (case l_images_are_right => k_is)
    (case c_images_are_right => k_is)
    (case k_images_are_right => k_is)
    (case a_check_images => k_is)
    (case l_check_images => k_is)
    (case c_check_images => k_is)
    (case k_check_images => k_is)
    (case a_check_two => k_is)
    (case l_check_two => k_is)
    (case c_check_two => k_is)
    (case k_check_two => k_is)
    (case a_is_overlap_paper => k_is)
    (case l_is_overlap_paper => k_is)
    (case c_is_overlap_paper => k_is)
    (case k_is_overlap_paper => k_is)
    (case a__law_says => k_is)
    (case l__law_says => k_is)
    (case c__law_says => k_is)
    (case k__law_says => k_is)
    (case a__law_draw => k_is)
    (case l__law_draw => k_is)
    (case c__law_draw => k_is)
    (case k__law_draw => k_is)
    (case a__law_overlap => k_is)
    (case l__law_overlap => k_is)
    (case c__law_overlap => k_is)
    (case k__law_overlap => k_is)
    (case a__law_free => k_is)
    (case l__law_free => k_is)
    (case c__law_free => k_is)
    (case k__law_free => k_is)
    (case a__law_image => k_is)
    (case l__law_image => k_is)
    (case c__law_image => k_is)
    (case k__law_image => k_is)
    (case a__law_rows => k_is)
    (case l__law_rows => k_is)
    (case c__law_rows => k_is)
    (case k__law_rows => k_is)
    (case a_long_stretches => k_is)
    (case l_long_stretches => k_is)
    (case c_long_stretches => k_is)
    (case k_long_stretches => k_is)
    (case a_root_round => k_is)
    (case l_root_round => k_is)
    (case c_root_round => k_is)
    (case k_root_round => k_is)
    (case a_runs_of => k_is)
    (case l_runs_of => k_is)
    (case c_runs_of => k_is)
    (case k_runs_of => k_is)
    (case a_letters_asked => k_is)
    (case l_letters_asked => k_is)
    (case c_letters_asked => k_is)
    (case k_letters_asked => k_is)
    (case a_first_of => k_is)
    (case l_first_of => k_is)
    (case c_first_of => k_is)
    (case k_first_of => k_is)
    (case a_keeps_overlap_free => k_is)
    (case l_keeps_overlap_free => k_is)
    (case c_keeps_overlap_free => k_is)
    (case k_keeps_overlap_free => k_is)
    (case a_first_at => k_is)
    (case l_first_at => k_is)
    (case c_first_at => k_is)
    (case k_first_at => k_is)
    (case a_overlap_paper => k_is)
    (case l_overlap_paper => k_is)
    (case c_overlap_paper => k_is)
    (case k_overlap_paper => k_is)
    (case a__law_one_right => k_is)
    (case l__law_one_right => k_is)
    (case c__law_one_right => k_is)
    (case k__law_one_right => k_is)
    (case a__law_pick => k_is)
    (case l__law_pick => k_is)
    (case c__law_pick => k_is)
    (case k__law_pick => k_is)
    (case a__law_word => k_is)
    (case l__law_word => k_is)
    (case c__law_word => k_is)
    (case k__law_word => k_is)
    (case a__law_images => k_is)
    (case l__law_images => k_is)
    (case c__law_images => k_is)
    (case k__law_images => k_is)
    (case a__law_pot => k_is)
    (case l__law_pot => k_is)
    (case c__law_pot => k_is)
    (case k__law_pot => k_is)
    (case a_law => k_is)
    (case l_law => k_is)
    (case c_law => k_is)
    (case k_law => k_is)
    (case z_abs => k_is)
    (case z_all => k_is)
    (case z_any => k_is)
    (case z_bool => k_is)
    (case z_divmod => k_is)
    (case z_enumerate => k_is)
    (case z_int => k_is)
    (case z_isinstance => k_is)
    (case z_len => k_is)
    (case z_list => k_is)
    (case z_max => k_is)
    (case z_min => k_is)
    (case z_range => k_is)
    (case z_repr => k_is)
    (case z_sorted => k_is)
    (case z_str => k_is)
    (case z_tuple => k_is)
    (case v_ALL => k_is)
    (case v_CUBES => k_is)
    (case v_MOST_IMAGE => k_is)
    (case v_OVERLAPS => k_is)
    (case v_SQUARES => k_is)
    (case v_TEST => k_is)
