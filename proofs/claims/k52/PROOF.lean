import PyProof.Rows.All
import Wide.All
import OpenK.AllK
import Wide.FinOn
import HandS.ForSpec
import HandS.Evl
import HandS.Dict
import HandS.Iter
import HandS.Text
import HandS.Walk
import KE.DataEq
import HandS.TupAny
import HandS.StrMore
import HandS.More
import HandS.DictComp
import HandS.IsInst
import HandS.FStr
import HandS.RaiseMore
import HandS.WordsDict
import HandS.ListItems
import KE.GoesEnum
import HandS.Ends
import HandS.EndBits
import HandS.OwnEq
import HandS.Codes
import PySem.Challenge.RW_latesettled_k52_disks_and_frames
set_option Elab.async false
set_option linter.all false
set_option autoImplicit false
set_option maxRecDepth 100000
/-! DL0: plain data (I, M), what a value of the heap stands for (IsI, IsM, with its footprint), frames, slots, the relation of a run. -/
namespace DL
open PySem L2

/-- data that never changes -/
inductive I where
  | non | bl (b : Bool) | int (i : Int) | str (x : Str) | tup (l : List I)
/-- data that may hold lists, dicts, objects -/
inductive M where
  | im (i : I) | lst (l : List M) | dic (l : List (Key × M)) | obj (C : Addr) (fs : List (Str × M)) | tpm (l : List M) | scr (l : List Int)

/-- an answer: a value, an exception of a class with its fields, no answer -/
inductive R (α : Type) where
  | ok (a : α) | exc (c : Str) (l : List M) | no
namespace R
def bind {α β : Type} (x : R α) (f : α → R β) : R β := match x with
  | .ok a => f a
  | .exc c l => .exc c l
  | .no => .no
instance : Monad R where
  pure := .ok
  bind := R.bind
theorem bind_ok {α β : Type} {x : R α} {f : α → R β} {b : β} (h : (x >>= f) = .ok b) : ∃ a, x = .ok a ∧ f a = .ok b := by
  cases x with
  | ok a => exact ⟨a, rfl, h⟩
  | exc c l => cases h
  | no => cases h
@[simp] theorem ok_bind {α β : Type} (a : α) (f : α → R β) : (R.ok a >>= f) = f a := rfl
@[simp] theorem exc_bind {α β : Type} (c : Str) (l : List M) (f : α → R β) : ((R.exc c l : R α) >>= f) = R.exc c l := rfl
@[simp] theorem no_bind {α β : Type} (f : α → R β) : ((R.no : R α) >>= f) = R.no := rfl
@[simp] theorem pure_ok {α : Type} (a : α) : (pure a : R α) = R.ok a := rfl
end R

abbrev Env := List (Option M)

/-! ### what values stand for -/
section
variable (K : PySem.W.Frag) (H : Hp)
mutual
inductive IsI : V → I → Prop
  | non : IsI .non .non
  | bl {b} : IsI (.bl b) (.bl b)
  | int {i} : IsI (.int i) (.int i)
  | str {x} : IsI (.str x) (.str x)
  | tup {a : Addr} {vs : List V} {l : List I} : SqT K H a vs → IsIs vs l → IsI (.ref a) (.tup l)
inductive IsIs : List V → List I → Prop
  | nil : IsIs [] []
  | cons {v : V} {i : I} {vs : List V} {l : List I} : IsI v i → IsIs vs l → IsIs (v :: vs) (i :: l)
end
mutual
inductive IsM : V → M → List Addr → Prop
  | im {v : V} {i : I} : IsI K H v i → IsM v (.im i) []
  | lst {a : Addr} {vs : List V} {l : List M} {S : List Addr} : H a = some (.lst vs) → IsMs vs l S → IsM (.ref a) (.lst l) (a :: S)
  | dic {a : Addr} {kvs : List (Key × V)} {l : List (Key × M)} {S : List Addr} : Rd H a (.dK kvs) → kvs.map (·.1) = l.map (·.1) → (l.map (·.1)).Nodup → IsMs (kvs.map (·.2)) (l.map (·.2)) S → IsM (.ref a) (.dic l) (a :: S)
  | obj {a C dx : Addr} {vs : List (Str × V)} {fs : List (Str × M)} {S : List Addr} : H a = some (.ins C dx vs) → vs.map (·.1) = fs.map (·.1) → IsMs (vs.map (·.2)) (fs.map (·.2)) S → IsM (.ref a) (.obj C fs) (a :: S)
  | tpm {a : Addr} {vs : List V} {l : List M} {S : List Addr} : SqT K H a vs → IsMs vs l S → IsM (.ref a) (.tpm l) S
  | scrF {a : Addr} {o : Obj} {l : List Int} : H a = some (.frz o (.lst (l.map .int))) → IsM (.ref a) (.scr l) []
  | scrK {a : Addr} {l : List Int} : (∀ H', SqL K H' a (l.map .int)) → IsM (.ref a) (.scr l) []
  | scrL {a : Addr} {l : List Int} : H a = some (.lst (l.map .int)) → IsM (.ref a) (.scr l) [a]
inductive IsMs : List V → List M → List Addr → Prop
  | nil : IsMs [] [] []
  | cons {v : V} {m : M} {S T : List Addr} {vs : List V} {l : List M} : IsM v m S → IsMs vs l T → IsMs (v :: vs) (m :: l) (S ++ T)
end
end

/-- what stands at a is not locked -/
def NF (H : Hp) (a : Addr) : Prop := ∀ o u, H a ≠ some (.frz o u)
def NFo (o : HO) : Prop := ∀ b u, o ≠ .frz b u
theorem NF.none {H : Hp} {a : Addr} (h : H a = none) : NF H a := fun o u q => by rw [h] at q; cases q
theorem NF.some {H : Hp} {a : Addr} {o : HO} (h : H a = some o) (n : NFo o) : NF H a := fun b u q => by
  rw [h] at q
  exact n b u (Option.some.inj q)
theorem NF.upd {H : Hp} {a p : Addr} {o : HO} (h : NF H a) (n : NFo o) : NF (L2.upd H p o) a := fun b u q => by
  by_cases e : a = p
  · subst e
    rw [upd_same] at q
    exact n b u (Option.some.inj q)
  · rw [upd_ne e] at q
    exact h b u q
/-- tuples and frozen things stay; nothing is left locked -/
structure TK (H H' : Hp) : Prop where
  tup : ∀ a xs, H a = some (.tup xs) → H' a = some (.tup xs)
  frz : ∀ a o u, H a = some (.frz o u) → H' a = some (.frz o u)
  nf : ∀ a, NF H a → NF H' a
/-- all that is tracked stays, but for B -/
structure Fm (B : List Addr) (H H' : Hp) : Prop where
  keep : ∀ a o, H a = some o → a ∉ B → H' a = some o
  tk : TK H H'
/-- all that is tracked stays -/
structure Ex (H H' : Hp) : Prop where
  ex : Evl.Ex H H'
  nf : ∀ a, NF H a → NF H' a
instance {H H' : Hp} : CoeFun (Ex H H') (fun _ => ∀ a o, H a = some o → H' a = some o) := ⟨fun e => e.ex⟩
theorem Ex.refl (H : Hp) : Ex H H := ⟨Evl.Ex.refl H, fun _ h => h⟩
theorem Ex.trans {H H1 H2 : Hp} (a : Ex H H1) (b : Ex H1 H2) : Ex H H2 := ⟨a.ex.trans b.ex, fun x h => b.nf x (a.nf x h)⟩
theorem Ex.new {H : Hp} {p : Addr} {o : HO} (h : H p = none) (ho : NFo o := by intro _ _ q; cases q) : Ex H (L2.upd H p o) := ⟨Evl.Ex.new h, fun _ n => n.upd ho⟩
theorem Ex.mut {H H' : Hp} {p : Addr} {o : HO} (e : Ex H H') (h : H p = none) (ho : NFo o := by intro _ _ q; cases q) : Ex H (L2.upd H' p o) := ⟨Evl.Ex.mut e.ex h, fun a n => (e.nf a n).upd ho⟩
theorem fresh_back {H H' : Hp} {p : Addr} (e : Ex H H') (h : H' p = none) : H p = none := Evl.fresh_back e.ex h
theorem TK.refl (H : Hp) : TK H H := ⟨fun _ _ h => h, fun _ _ _ h => h, fun _ h => h⟩
theorem TK.trans {H H1 H2 : Hp} (a : TK H H1) (b : TK H1 H2) : TK H H2 := ⟨fun x y h => b.tup x y (a.tup x y h), fun x y z h => b.frz x y z (a.frz x y z h), fun x h => b.nf x (a.nf x h)⟩
theorem Ex.tk {H H' : Hp} (e : Ex H H') : TK H H' := ⟨fun a xs h => e a _ h, fun a o u h => e a _ h, e.nf⟩
theorem Ex.fm {B : List Addr} {H H' : Hp} (e : Ex H H') : Fm B H H' := ⟨fun a o h _ => e a o h, e.tk⟩
theorem Fm.refl (B : List Addr) (H : Hp) : Fm B H H := ⟨fun _ _ h _ => h, TK.refl H⟩
theorem Fm.trans {B : List Addr} {H H1 H2 : Hp} (a : Fm B H H1) (b : Fm B H1 H2) : Fm B H H2 := ⟨fun x o h n => b.keep x o (a.keep x o h n) n, a.tk.trans b.tk⟩
theorem Fm.ex {H H' : Hp} (f : Fm [] H H') : Ex H H' := ⟨fun a o h => f.keep a o h (by simp), f.tk.nf⟩
theorem Fm.mono {B B' : List Addr} {H H' : Hp} (f : Fm B H H') (h : ∀ a ∈ B, a ∈ B') : Fm B' H H' := ⟨fun a o e n => f.keep a o e fun z => n (h a z), f.tk⟩

theorem TK.sqT {K : PySem.W.Frag} {H H' : Hp} {a : Addr} {xs : List V} (t : TK H H') (h : SqT K H a xs) : SqT K H' a xs := by
  rcases h with (h | ⟨o, h⟩) | h
  · exact .inl (.inl (t.tup _ _ h))
  · exact .inl (.inr ⟨o, t.frz _ _ _ h⟩)
  · exact .inr h

section
variable {K : PySem.W.Frag} {H H' : Hp}
mutual
theorem IsI.keep (t : TK H H') : ∀ {v : V} {i : I}, IsI K H v i → IsI K H' v i
  | _, _, .non => .non
  | _, _, .bl => .bl
  | _, _, .int => .int
  | _, _, .str => .str
  | _, _, .tup h l => .tup (t.sqT h) (IsIs.keep t l)
theorem IsIs.keep (t : TK H H') : ∀ {vs : List V} {l : List I}, IsIs K H vs l → IsIs K H' vs l
  | _, _, .nil => .nil
  | _, _, .cons h r => .cons (IsI.keep t h) (IsIs.keep t r)
end
mutual
theorem IsM.keep (t : TK H H') : ∀ {v : V} {m : M} {S : List Addr}, (∀ a ∈ S, ∀ o, H a = some o → H' a = some o) → IsM K H v m S → IsM K H' v m S
  | _, _, _, _, .im h => .im (h.keep t)
  | _, _, _, f, .lst h r => .lst (f _ List.mem_cons_self _ h) (IsMs.keep t (fun a ha => f a (List.mem_cons_of_mem _ ha)) r)
  | _, _, _, f, .dic h e n r => .dic (h.elim (fun h => .inl (f _ List.mem_cons_self _ h)) fun ⟨o, h⟩ => .inr ⟨o, f _ List.mem_cons_self _ h⟩) e n (IsMs.keep t (fun a ha => f a (List.mem_cons_of_mem _ ha)) r)
  | _, _, _, f, .obj h e r => .obj (f _ List.mem_cons_self _ h) e (IsMs.keep t (fun a ha => f a (List.mem_cons_of_mem _ ha)) r)
  | _, _, _, f, .tpm h r => .tpm (t.sqT h) (IsMs.keep t f r)
  | _, _, _, _, .scrF h => .scrF (t.frz _ _ _ h)
  | _, _, _, _, .scrK h => .scrK h
  | _, _, _, f, .scrL h => .scrL (f _ List.mem_cons_self _ h)
theorem IsMs.keep (t : TK H H') : ∀ {vs : List V} {l : List M} {S : List Addr}, (∀ a ∈ S, ∀ o, H a = some o → H' a = some o) → IsMs K H vs l S → IsMs K H' vs l S
  | _, _, _, _, .nil => .nil
  | _, _, _, f, .cons h r => .cons (IsM.keep t (fun a ha => f a (List.mem_append_left _ ha)) h) (IsMs.keep t (fun a ha => f a (List.mem_append_right _ ha)) r)
end
mutual
theorem IsM.there : ∀ {v : V} {m : M} {S : List Addr}, IsM K H v m S → ∀ a ∈ S, ∃ o, H a = some o
  | _, _, _, .im _, a, ha => nomatch ha
  | _, _, _, .lst h r, a, ha => by
    rcases List.mem_cons.mp ha with rfl | ha
    · exact ⟨_, h⟩
    · exact IsMs.there r a ha
  | _, _, _, .dic h _ _ r, a, ha => by
    rcases List.mem_cons.mp ha with rfl | ha
    · rcases h with h | ⟨o, h⟩
      · exact ⟨_, h⟩
      · exact ⟨_, h⟩
    · exact IsMs.there r a ha
  | _, _, _, .obj h _ r, a, ha => by
    rcases List.mem_cons.mp ha with rfl | ha
    · exact ⟨_, h⟩
    · exact IsMs.there r a ha
  | _, _, _, .tpm _ r, a, ha => IsMs.there r a ha
  | _, _, _, .scrF _, a, ha => nomatch ha
  | _, _, _, .scrK _, a, ha => nomatch ha
  | _, _, _, .scrL h, a, ha => by
    rcases List.mem_cons.mp ha with rfl | ha
    · exact ⟨_, h⟩
    · exact nomatch ha
theorem IsMs.there : ∀ {vs : List V} {l : List M} {S : List Addr}, IsMs K H vs l S → ∀ a ∈ S, ∃ o, H a = some o
  | _, _, _, .nil, a, ha => nomatch ha
  | _, _, _, .cons h r, a, ha => by
    rcases List.mem_append.mp ha with ha | ha
    · exact IsM.there h a ha
    · exact IsMs.there r a ha
end
theorem IsM.ex {v : V} {m : M} {S : List Addr} (e : Ex H H') (h : IsM K H v m S) : IsM K H' v m S := h.keep e.tk fun a _ o => e a o
theorem IsMs.ex {vs : List V} {l : List M} {S : List Addr} (e : Ex H H') (h : IsMs K H vs l S) : IsMs K H' vs l S := h.keep e.tk fun a _ o => e a o
theorem IsM.fm {B : List Addr} {v : V} {m : M} {S : List Addr} (f : Fm B H H') (d : ∀ a ∈ S, a ∉ B) (h : IsM K H v m S) : IsM K H' v m S := h.keep f.tk fun a ha o e => f.keep a o e (d a ha)
theorem IsMs.fm {B : List Addr} {vs : List V} {l : List M} {S : List Addr} (f : Fm B H H') (d : ∀ a ∈ S, a ∉ B) (h : IsMs K H vs l S) : IsMs K H' vs l S := h.keep f.tk fun a ha o e => f.keep a o e (d a ha)

theorem IsM.im_nil {v : V} {i : I} {S : List Addr} (h : IsM K H v (.im i) S) : S = [] ∧ IsI K H v i := by
  cases h with
  | im h => exact ⟨rfl, h⟩
theorem IsMs.length : ∀ {vs : List V} {l : List M} {S : List Addr}, IsMs K H vs l S → vs.length = l.length
  | _, _, _, .nil => rfl
  | _, _, _, .cons _ r => by rw [List.length_cons, List.length_cons, IsMs.length r]
theorem IsIs.length : ∀ {vs : List V} {l : List I}, IsIs K H vs l → vs.length = l.length
  | _, _, .nil => rfl
  | _, _, .cons _ r => by rw [List.length_cons, List.length_cons, IsIs.length r]
theorem IsMs.get : ∀ {vs : List V} {l : List M} {S : List Addr} {i : Nat} {m : M}, IsMs K H vs l S → l[i]? = some m → ∃ v T, vs[i]? = some v ∧ IsM K H v m T ∧ T.Sublist S
  | _, _, _, i, m, .nil, h => by simp at h
  | _, _, _, 0, m, .cons (S := S) (T := T) h r, e => by
    have e : _ = m := Option.some.inj e
    subst e
    exact ⟨_, _, rfl, h, List.sublist_append_left _ _⟩
  | _, _, _, i + 1, m, .cons h r, e => by
    obtain ⟨v, T, h1, h2, h3⟩ := IsMs.get (i := i) (m := m) r e
    exact ⟨v, T, h1, h2, h3.trans (List.sublist_append_right _ _)⟩
theorem IsIs.get : ∀ {vs : List V} {l : List I} {i : Nat} {m : I}, IsIs K H vs l → l[i]? = some m → ∃ v, vs[i]? = some v ∧ IsI K H v m
  | _, _, i, m, .nil, h => by simp at h
  | _, _, 0, m, .cons h r, e => by
    have e : _ = m := Option.some.inj e
    subst e
    exact ⟨_, rfl, h⟩
  | _, _, i + 1, m, .cons h r, e => IsIs.get (i := i) (m := m) r e
theorem IsMs.append : ∀ {vs ws : List V} {l m : List M} {S T : List Addr}, IsMs K H vs l S → IsMs K H ws m T → IsMs K H (vs ++ ws) (l ++ m) (S ++ T)
  | _, _, _, _, _, _, .nil, s => s
  | _, _, _, _, _, _, .cons h r, s => by
    rw [List.append_assoc]
    exact .cons h (IsMs.append r s)
theorem IsIs.append : ∀ {vs ws : List V} {l m : List I}, IsIs K H vs l → IsIs K H ws m → IsIs K H (vs ++ ws) (l ++ m)
  | _, _, _, _, .nil, s => s
  | _, _, _, _, .cons h r, s => .cons h (IsIs.append r s)
theorem IsIs.take : ∀ {vs : List V} {l : List I} (n : Nat), IsIs K H vs l → IsIs K H (vs.take n) (l.take n)
  | _, _, 0, _ => .nil
  | _, _, n + 1, .nil => .nil
  | _, _, n + 1, .cons h r => .cons h (IsIs.take n r)
theorem IsIs.drop : ∀ {vs : List V} {l : List I} (n : Nat), IsIs K H vs l → IsIs K H (vs.drop n) (l.drop n)
  | _, _, 0, h => h
  | _, _, n + 1, .nil => .nil
  | _, _, n + 1, .cons h r => IsIs.drop n r
/-- items that never change -/
theorem IsMs.ims : ∀ {vs : List V} {l : List I}, IsIs K H vs l → IsMs K H vs (l.map .im) []
  | _, _, .nil => .nil
  | _, _, .cons h r => IsMs.cons (S := []) (T := []) (IsM.im h) (IsMs.ims r)
theorem IsMs.of_ims : ∀ {vs : List V} {l : List I} {S : List Addr}, IsMs K H vs (l.map .im) S → S = [] ∧ IsIs K H vs l
  | _, [], _, .nil => ⟨rfl, .nil⟩
  | _, i :: l, _, .cons h r => by
    obtain ⟨e, h2⟩ := h.im_nil
    obtain ⟨e', r2⟩ := IsMs.of_ims r
    exact ⟨by rw [e, e']; rfl, .cons h2 r2⟩
end

/-! ### slots -/
structure Slots (K : PySem.W.Frag) (H : Hp) (σ : L2.St) (ρ : Env) (S : Nat → List Addr) : Prop where
  len : σ.length = ρ.length
  nd : ∀ (i : Nat), (S i).Nodup
  out : ∀ (i : Nat), ρ.length ≤ i → S i = []
  at_ : ∀ (i : Nat) (m : M), ρ[i]? = some (some m) → ∃ v, σ[i]? = some (some v) ∧ IsM K H v m (S i)
theorem Slots.ex {K : PySem.W.Frag} {H H' : Hp} {σ : L2.St} {ρ : Env} {S : Nat → List Addr} (e : Ex H H') (h : Slots K H σ ρ S) : Slots K H' σ ρ S :=
  ⟨h.len, h.nd, h.out, fun i m q => let ⟨v, a, b⟩ := h.at_ i m q; ⟨v, a, b.ex e⟩⟩
def updS (S : Nat → List Addr) (i : Nat) (T : List Addr) : Nat → List Addr := fun j => if j = i then T else S j
theorem updS_same {S : Nat → List Addr} {i : Nat} {T : List Addr} : updS S i T i = T := if_pos rfl
theorem updS_ne {S : Nat → List Addr} {i j : Nat} {T : List Addr} (h : j ≠ i) : updS S i T j = S j := if_neg h

/-- the ways of a slot: a name of one's own; the object that the def may change (its slot is not assigned); not assigned and not changed; assigned, never changed -/
inductive Md where
  | loc | io | ro | any
  deriving DecidableEq
/-- a run: the heap at its entry, what of it may change, the slots' ways, the slots at its entry -/
structure Rn where
  K : PySem.W.Frag
  H0 : Hp
  B : List Addr
  md : List Md
  σ1 : L2.St
  ρ1 : Env
  S1 : Nat → List Addr
def Rn.Own (r : Rn) (a : Addr) : Prop := r.H0 a = none ∨ a ∈ r.B
structure Rel (r : Rn) (H : Hp) (σ : L2.St) (ρ : Env) (S : Nat → List Addr) : Prop where
  sl : Slots r.K H σ ρ S
  mdl : r.md.length = ρ.length
  fm : Fm r.B r.H0 H
  there : ∀ (i : Nat), ∀ a ∈ S i, ∃ o, H a = some o
  sep : ∀ (i j : Nat) (a : Addr), i ≠ j → a ∈ S i → a ∈ S j → ¬ r.Own a
  own : ∀ (i : Nat), (r.md[i]? = some Md.loc ∨ r.md[i]? = some Md.io) → ∀ a ∈ S i, r.Own a
  io : ∀ (i : Nat), r.md[i]? = some Md.io → σ[i]? = r.σ1[i]?
  ro : ∀ (i : Nat), r.md[i]? = some Md.ro → σ[i]? = r.σ1[i]? ∧ ρ[i]? = r.ρ1[i]? ∧ S i = r.S1 i
  bnf : ∀ a ∈ r.B, NF r.H0 a
theorem Rel.nf {r : Rn} {H : Hp} {σ : L2.St} {ρ : Env} {S : Nat → List Addr} (h : Rel r H σ ρ S) {a : Addr} (o : r.Own a) : NF H a := by
  refine h.fm.tk.nf a ?_
  rcases o with o | o
  · exact .none o
  · exact h.bnf a o

/-- all of S is new -/
structure New (H : Hp) (S : List Addr) : Prop where
  free : ∀ a ∈ S, H a = none
  nd : S.Nodup
theorem New.nil {H : Hp} : New H [] := ⟨fun _ h => (nomatch h), List.nodup_nil⟩
theorem New.back {H H' : Hp} {S : List Addr} (e : Ex H H') (n : New H' S) : New H S := ⟨fun a h => fresh_back e (n.free a h), n.nd⟩
theorem Rel.new {r : Rn} {H : Hp} {σ : L2.St} {ρ : Env} {S : Nat → List Addr} (h : Rel r H σ ρ S) {a : Addr} (e : H a = none) : r.Own a := by
  by_cases hb : a ∈ r.B
  · exact .inr hb
  · refine .inl ?_
    cases q : r.H0 a with
    | none => rfl
    | some o =>
      have := h.fm.keep a o q hb
      rw [e] at this
      cases this
theorem Rel.ex {r : Rn} {H H' : Hp} {σ : L2.St} {ρ : Env} {S : Nat → List Addr} (e : Ex H H') (h : Rel r H σ ρ S) : Rel r H' σ ρ S :=
  ⟨h.sl.ex e, h.mdl, h.fm.trans e.fm, fun i a ha => let ⟨o, q⟩ := h.there i a ha; ⟨o, e a o q⟩, h.sep, h.own, h.io, h.ro, h.bnf⟩
theorem Rel.newApart {r : Rn} {H : Hp} {σ : L2.St} {ρ : Env} {S : Nat → List Addr} (h : Rel r H σ ρ S) {a : Addr} (e : H a = none) : r.Own a ∧ ∀ j, a ∉ S j := ⟨h.new e, fun j hj => by
  obtain ⟨o, q⟩ := h.there j a hj
  rw [e] at q; cases q⟩
/-- a name is set to a value of new footprint -/
theorem Rel.set {r : Rn} {H H' : Hp} {σ : L2.St} {ρ : Env} {S : Nat → List Addr} {i : Nat} {v : V} {m : M} {T : List Addr} (h : Rel r H σ ρ S) (e : Ex H H') (hi : r.md[i]? = some Md.loc ∨ r.md[i]? = some Md.any) (hm : IsM r.K H' v m T) (n : New H T) :
    Rel r H' (σ.set i (some v)) (ρ.set i (some m)) (updS S i T) := by
  have h' := h.ex e
  refine ⟨⟨by simp [h.sl.len], fun j => ?_, fun j hj => ?_, fun j m' q => ?_⟩, by simp [h.mdl], h'.fm, fun j a ha => ?_, fun j k a hjk ha hb => ?_, fun j hj a ha => ?_, fun j hj => ?_, fun j hj => ?_, h.bnf⟩
  · by_cases hj : j = i
    · subst hj; rw [updS_same]; exact n.nd
    · rw [updS_ne hj]; exact h.sl.nd j
  · have hl : i < ρ.length := by
      rw [← h.mdl]
      rcases hi with z | z <;> exact (List.getElem?_eq_some_iff.mp z).1
    have hj : ρ.length ≤ j := by simpa using hj
    rw [updS_ne (by omega)]
    exact h.sl.out j hj
  · by_cases hj : j = i
    · subst hj
      have hl : j < ρ.length := by
        have := (List.getElem?_eq_some_iff.mp q).1
        simpa using this
      rw [List.getElem?_set_self hl] at q
      have q : some m = some m' := Option.some.inj q
      cases q
      refine ⟨v, ?_, ?_⟩
      · rw [List.getElem?_set_self (by rw [h.sl.len]; exact hl)]
      · rw [updS_same]; exact hm
    · rw [List.getElem?_set_ne (Ne.symm hj)] at q
      obtain ⟨v', a, b⟩ := h'.sl.at_ j m' q
      refine ⟨v', by rw [List.getElem?_set_ne (Ne.symm hj)]; exact a, by rw [updS_ne hj]; exact b⟩
  · by_cases hj : j = i
    · subst hj
      rw [updS_same] at ha
      exact hm.there a ha
    · rw [updS_ne hj] at ha
      exact h'.there j a ha
  · by_cases hj : j = i
    · subst hj
      rw [updS_same] at ha
      rw [updS_ne (Ne.symm hjk)] at hb
      obtain ⟨o, q⟩ := h.there k a hb
      rw [n.free a ha] at q
      cases q
    · rw [updS_ne hj] at ha
      by_cases hk : k = i
      · subst hk
        rw [updS_same] at hb
        obtain ⟨o, q⟩ := h.there j a ha
        rw [n.free a hb] at q
        cases q
      · rw [updS_ne hk] at hb
        exact h.sep j k a hjk ha hb
  · by_cases hk : j = i
    · subst hk
      rw [updS_same] at ha
      exact h.new (n.free a ha)
    · rw [updS_ne hk] at ha
      exact h.own j hj a ha
  · have hk : j ≠ i := by
      rintro rfl
      rcases hi with z | z <;> (rw [z] at hj; cases hj)
    rw [List.getElem?_set_ne (Ne.symm hk)]
    exact h.io j hj
  · have hk : j ≠ i := by
      rintro rfl
      rcases hi with z | z <;> (rw [z] at hj; cases hj)
    rw [List.getElem?_set_ne (Ne.symm hk), List.getElem?_set_ne (Ne.symm hk), updS_ne hk]
    exact h.ro j hj
/-- the object of a slot has changed: what was its footprint is changed, the rest stands -/
theorem Rel.change {r : Rn} {H H' : Hp} {σ : L2.St} {ρ : Env} {S : Nat → List Addr} {i : Nat} {v : V} {m : M} {T : List Addr} (h : Rel r H σ ρ S) (hi : r.md[i]? = some Md.loc ∨ r.md[i]? = some Md.io) (hv : σ[i]? = some (some v))
    (f : Fm (S i) H H') (hm : IsM r.K H' v m T) (hn : T.Nodup) (hT : ∀ a ∈ T, a ∈ S i ∨ (r.Own a ∧ ∀ j, a ∉ S j)) : Rel r H' σ (ρ.set i (some m)) (updS S i T) := by
  have hl : i < ρ.length := by
    have := (List.getElem?_eq_some_iff.mp hv).1
    rw [h.sl.len] at this
    exact this
  have own : ∀ a ∈ S i, r.Own a := h.own i hi
  have dis : ∀ j, j ≠ i → ∀ a ∈ S j, a ∉ S i := fun j hj a ha hb => h.sep j i a hj ha hb (own a hb)
  have disT : ∀ j, j ≠ i → ∀ a ∈ S j, a ∉ T := fun j hj a ha hb => by
    rcases hT a hb with z | z
    · exact dis j hj a ha z
    · exact z.2 j ha
  refine ⟨⟨by simp [h.sl.len], fun j => ?_, fun j hj => ?_, fun j m' q => ?_⟩, by simp [h.mdl], ⟨fun a o e n => ?_, h.fm.tk.trans f.tk⟩, fun j a ha => ?_, fun j k a hjk ha hb => ?_, fun j hj a ha => ?_, h.io, fun j hj => ?_, h.bnf⟩
  · by_cases hj : j = i
    · subst hj; rw [updS_same]; exact hn
    · rw [updS_ne hj]; exact h.sl.nd j
  · have hl : i < ρ.length := by
      rw [← h.mdl]
      rcases hi with z | z <;> exact (List.getElem?_eq_some_iff.mp z).1
    have hj : ρ.length ≤ j := by simpa using hj
    rw [updS_ne (by omega)]
    exact h.sl.out j hj
  · by_cases hj : j = i
    · subst hj
      rw [List.getElem?_set_self hl] at q
      have q : some m = some m' := Option.some.inj q
      cases q
      exact ⟨v, hv, by rw [updS_same]; exact hm⟩
    · rw [List.getElem?_set_ne (Ne.symm hj)] at q
      obtain ⟨v', a, b⟩ := h.sl.at_ j m' q
      exact ⟨v', a, by rw [updS_ne hj]; exact b.fm f (dis j hj)⟩
  · refine f.keep a o (h.fm.keep a o e n) fun z => ?_
    rcases own a z with q | q
    · rw [e] at q; cases q
    · exact n q
  · by_cases hj : j = i
    · subst hj
      rw [updS_same] at ha
      exact hm.there a ha
    · rw [updS_ne hj] at ha
      obtain ⟨o, q⟩ := h.there j a ha
      exact ⟨o, f.keep a o q (dis j hj a ha)⟩
  · by_cases hj : j = i
    · subst hj
      rw [updS_same] at ha
      rw [updS_ne (Ne.symm hjk)] at hb
      exact absurd ha (disT k (Ne.symm hjk) a hb)
    · rw [updS_ne hj] at ha
      by_cases hk : k = i
      · subst hk
        rw [updS_same] at hb
        exact absurd hb (disT j hj a ha)
      · rw [updS_ne hk] at hb
        exact h.sep j k a hjk ha hb
  · by_cases hk : j = i
    · subst hk
      rw [updS_same] at ha
      rcases hT a ha with z | z
      · exact own a z
      · exact z.1
    · rw [updS_ne hk] at ha
      exact h.own j hj a ha
  · have hk : j ≠ i := by
      rintro rfl
      rcases hi with z | z <;> (rw [z] at hj; cases hj)
    rw [List.getElem?_set_ne (Ne.symm hk), updS_ne hk]
    exact h.ro j hj
end DL
/-! DL1: the canonical readings of expressions, tests, arguments; names, constants, operators, comparisons, and, or, not, if, displays, built-ins by values. -/
namespace DL
open PySem L2

theorem _root_.L2.PE.imp {X : Cx} {e : Expr} {t t' : TE} (h : PE X e t) (w : ∀ σ H Q, t' σ H Q → t σ H Q) : PE X e t' := ⟨fun pins s σ H Q I q => h.run pins s σ H Q I (w σ H Q q)⟩
theorem _root_.L2.PT.imp {X : Cx} {e : Expr} {t t' : TT} (h : PT X e t) (w : ∀ σ H Q, t' σ H Q → t σ H Q) : PT X e t' := ⟨fun pins s σ H Q I q => h.run pins s σ H Q I (w σ H Q q)⟩
theorem _root_.L2.PW.imp {X : Cx} {e : Expr} {t t' : TT} (h : PW X e t) (w : ∀ σ H Q, t' σ H Q → t σ H Q) : PW X e t' := ⟨fun wh pins s σ H Q I q => h.run wh pins s σ H Q I (w σ H Q q)⟩
theorem _root_.L2.PA.imp {X : Cx} {es : List Expr} {t t' : TA} (h : PA X es t) (w : ∀ σ H Q, t' σ H Q → t σ H Q) : PA X es t' := ⟨fun p pins s σ H Q I q => h.run p pins s σ H Q I (w σ H Q q)⟩
theorem _root_.L2.PS.imp {X : Cx} {e : Stmt} {t t' : TS} (h : PS X e t) (w : ∀ D σ H, t' D σ H → t D σ H) : PS X e t' := ⟨fun pins s σ H D I q => h.run pins s σ H D I (w D σ H q)⟩
theorem _root_.L2.PSs.imp {X : Cx} {e : List Stmt} {t t' : TS} (h : PSs X e t) (w : ∀ D σ H, t' D σ H → t D σ H) : PSs X e t' := ⟨fun pins s σ H D I q => h.run pins s σ H D I (w D σ H q)⟩
theorem _root_.L2.PG.imp {X : Cx} {e : Expr} {t t' : TG} (h : PG X e t) (w : ∀ v σ H Q, t' v σ H Q → t v σ H Q) : PG X e t' := ⟨fun pins s σ H v u Q I r q => h.run pins s σ H v u Q I r (w v σ H Q q)⟩
theorem _root_.L2.PI.imp {X : Cx} {tg e : Expr} {t t' : TI} (h : PI X tg e t) (w : ∀ σ H R, t' σ H R → t σ H R) : PI X tg e t' := ⟨fun pins s σ H Q I q => h.run pins s σ H Q I (w σ H Q q)⟩

/-- a footprint: new, or of the slots U -/
structure Fr (U : List Nat) (S : Nat → List Addr) (H : Hp) (T : List Addr) : Prop where
  nd : T.Nodup
  fr : ∀ a ∈ T, H a = none ∨ ∃ j ∈ U, a ∈ S j
theorem Fr.new {S : Nat → List Addr} {H : Hp} {T : List Addr} (f : Fr [] S H T) : New H T := ⟨fun a ha => by
  rcases f.fr a ha with z | ⟨j, hj, _⟩
  · exact z
  · exact (nomatch hj), f.nd⟩
theorem New.fr {U : List Nat} {S : Nat → List Addr} {H : Hp} {T : List Addr} (f : New H T) : Fr U S H T := ⟨f.nd, fun a ha => .inl (f.free a ha)⟩
theorem Fr.mono {U V : List Nat} {S : Nat → List Addr} {H H' : Hp} {T : List Addr} (f : Fr U S H' T) (e : Ex H H') (h : ∀ j ∈ U, j ∈ V) : Fr V S H T := ⟨f.nd, fun a ha => by
  rcases f.fr a ha with z | ⟨j, hj, q⟩
  · exact .inl (fresh_back e z)
  · exact .inr ⟨j, h j hj, q⟩⟩
theorem Fr.nil {U : List Nat} {S : Nat → List Addr} {H : Hp} : Fr U S H [] := ⟨List.nodup_nil, fun _ h => (nomatch h)⟩
theorem fresh_ne {H : Hp} {a b : Addr} {o : HO} (h : H a = some o) (h' : H b = none) : b ≠ a := (ne_of_none h h').symm

section
variable (K : PySem.W.Frag)
/-- an expression that changes nothing: its value by f -/
def tD (U : List Nat) (f : Env → R M) : TE := fun σ H Q => ∃ ρ S m, Slots K H σ ρ S ∧ f ρ = .ok m ∧ ∀ v H2 T, Ex H H2 → IsM K H2 v m T → Fr U S H T → Q v H2
/-- a test that changes nothing -/
def tDT (f : Env → R Bool) : TT := fun σ H Q => ∃ ρ S b, Slots K H σ ρ S ∧ f ρ = .ok b ∧ ∀ H2, Ex H H2 → Q b H2
inductive Ars (H : Hp) : List V → List M → List (List Addr) → Prop
  | nil : Ars H [] [] []
  | cons {v : V} {m : M} {T : List Addr} {vs : List V} {ms : List M} {Ts : List (List Addr)} : IsM K H v m T → T.Nodup → Ars H vs ms Ts → Ars H (v :: vs) (m :: ms) (T :: Ts)
/-- arguments -/
def tDA (U : List Nat) (f : Env → R (List M)) : TA := fun σ H Q => ∃ ρ S ms, Slots K H σ ρ S ∧ f ρ = .ok ms ∧
  ∀ vs H2 Ts, Ex H H2 → Ars K H2 vs ms Ts → (∀ a ∈ Ts.flatten, H a = none ∨ ∃ j ∈ U, a ∈ S j) → Q vs H2
/-- items of a display: all new -/
def tDO (f : Env → R (List M)) : TA := fun σ H Q => ∃ ρ S ms, Slots K H σ ρ S ∧ f ρ = .ok ms ∧ ∀ vs H2 T, Ex H H2 → IsMs K H2 vs ms T → New H T → Q vs H2
/-- operations by values -/
def rD (g : M → M → R M) : R2 := fun x y H Q => ∃ m n S T r, IsM K H x m S ∧ IsM K H y n T ∧ g m n = .ok r ∧ ∀ v H2 U, Ex H H2 → IsM K H2 v r U → New H U → Q v H2
def rDU (g : M → R M) : V → Hp → VK → Prop := fun x H Q => ∃ m S r, IsM K H x m S ∧ g m = .ok r ∧ ∀ v H2 U, Ex H H2 → IsM K H2 v r U → New H U → Q v H2
def rDC (g : List M → R M) : List V → Hp → VK → Prop := fun xs H Q => ∃ ms Ts r, Ars K H xs ms Ts ∧ g ms = .ok r ∧ ∀ v H2 U, Ex H H2 → IsM K H2 v r U → New H U → Q v H2
end
theorem Ars.ex {K : PySem.W.Frag} {H H' : Hp} (e : Ex H H') : ∀ {vs : List V} {ms : List M} {Ts : List (List Addr)}, Ars K H vs ms Ts → Ars K H' vs ms Ts
  | _, _, _, .nil => .nil
  | _, _, _, .cons h n r => .cons (h.ex e) n (Ars.ex e r)

/-! ### plain functions -/
def getV (ρ : Env) (i : Nat) : R M := match ρ[i]? with
  | some (some m) => .ok m
  | _ => .no
def asIm : M → R M
  | .im i => .ok (.im i)
  | _ => .no
def asB : M → R Bool
  | .im (.bl b) => .ok b
  | _ => .no
abbrev mI (i : Int) : M := .im (.int i)
abbrev mS (x : Str) : M := .im (.str x)
abbrev mB (b : Bool) : M := .im (.bl b)
abbrev mN : M := .im .non
abbrev mT (l : List I) : M := .im (.tup l)
def allIm : List M → Option (List I)
  | [] => some []
  | .im i :: r => (allIm r).map (i :: ·)
  | _ :: _ => none
theorem allIm_map : ∀ {l : List M} {k : List I}, allIm l = some k → l = k.map .im
  | [], k, h => by
    cases h
    rfl
  | m :: r, k, h => by
    cases m with
    | im i =>
      simp only [allIm] at h
      cases q : allIm r with
      | none => rw [q] at h; cases h
      | some k' =>
        rw [q] at h
        cases h
        rw [allIm_map q]
        rfl
    | _ => cases h
@[simp] theorem allIm_of (l : List I) : allIm (l.map .im) = some l := by
  induction l with
  | nil => rfl
  | cons i r ih => simp [allIm, ih]

section
variable {X : Cx}

/-! ### names and constants -/
theorem pd_var (i : Nat) {x : Str} {pos : Pos} (hN : X.N[i]? = some x := by rfl) (hv : Vis X.env.scope x := by first | exact Or.inl rfl | exact Or.inr (Or.inl rfl) | exact Or.inr (Or.inr rfl)) (hd : (x == ("__debug__" : Str)) = false := by decide)
    (hcd : (x == ("__classdict__" : Str)) = false := by decide) : PE X (.Name x pos) (tD X.K [i] fun ρ => getV ρ i) :=
  (pe_var hN hv hd hcd).imp fun σ H Q h => by
    obtain ⟨ρ, S, m, sl, hm, k⟩ := h
    have hm : getV ρ i = .ok m := hm
    unfold getV at hm
    split at hm
    · rename_i m' e
      cases hm
      obtain ⟨v, h1, h2⟩ := sl.at_ i m e
      exact ⟨v, h1, k v H (S i) (Ex.refl H) h2 ⟨sl.nd i, fun a ha => .inr ⟨i, List.mem_singleton.mpr rfl, ha⟩⟩⟩
    · cases hm
theorem pd_const {e : Expr} {v : V} {i : I} (h : PE X e (tC v)) (hi : ∀ H, IsI X.K H v i) : PE X e (tD X.K [] fun _ => .ok (.im i)) := h.imp fun σ H Q h => by
  obtain ⟨ρ, S, m, sl, hm, k⟩ := h
  cases hm
  exact k v H [] (Ex.refl H) (.im (hi H)) Fr.nil
theorem pd_int {i : Int} {j pos} : PE X (.Constant (.int i) j pos) (tD X.K [] fun _ => .ok (mI i)) := pd_const pe_int fun _ => .int
theorem pd_str {i : Str} {j pos} : PE X (.Constant (.str i) j pos) (tD X.K [] fun _ => .ok (mS i)) := pd_const pe_str fun _ => .str
theorem pd_bl {i : Bool} {j pos} : PE X (.Constant (.bool i) j pos) (tD X.K [] fun _ => .ok (mB i)) := pd_const pe_bl fun _ => .bl
theorem pd_non {j pos} : PE X (.Constant .none j pos) (tD X.K [] fun _ => .ok mN) := pd_const pe_non fun _ => .non
/-- a constant of the module -/
theorem pd_globI {x : Str} {i : Int} {t : Tok} {pos : Pos} (hg : Gl X x) (hm : X.mg x = some (.int i t)) (hd : (x == ("__debug__" : Str)) = false := by decide) : PE X (.Name x pos) (tD X.K [] fun _ => .ok (mI i)) := pd_const (pe_glob (v := .int i) hg hm ⟨t, rfl⟩ hd) fun _ => .int
theorem pd_globS {x : Str} {i : Str} {t : Tok} {pos : Pos} (hg : Gl X x) (hm : X.mg x = some (.str i t)) (hd : (x == ("__debug__" : Str)) = false := by decide) : PE X (.Name x pos) (tD X.K [] fun _ => .ok (mS i)) := pd_const (pe_glob (v := .str i) hg hm ⟨t, rfl⟩ hd) fun _ => .str
/-- a value that never changes is of no footprint -/
theorem pd_im {e : Expr} {U : List Nat} {f : Env → R M} (h : PE X e (tD X.K U f)) : PE X e (tD X.K [] fun ρ => f ρ >>= asIm) := h.imp fun σ H Q h => by
  obtain ⟨ρ, S, m, sl, hm, k⟩ := h
  obtain ⟨a, h1, h2⟩ := R.bind_ok hm
  refine ⟨ρ, S, a, sl, h1, fun v H2 T e is fr => ?_⟩
  cases a with
  | im i =>
    cases h2
    obtain ⟨rfl, hi⟩ := is.im_nil
    exact k v H2 [] e (.im hi) Fr.nil
  | _ => cases h2
theorem pd_wk {e : Expr} {U V : List Nat} {f : Env → R M} (h : PE X e (tD X.K U f)) (w : ∀ j ∈ U, j ∈ V) : PE X e (tD X.K V f) := h.imp fun σ H Q h => by
  obtain ⟨ρ, S, m, sl, hm, k⟩ := h
  exact ⟨ρ, S, m, sl, hm, fun v H2 T e is fr => k v H2 T e is (fr.mono (Ex.refl H) w)⟩
theorem pd_eq {e : Expr} {U : List Nat} {f g : Env → R M} (h : PE X e (tD X.K U f)) (w : ∀ ρ, g ρ = f ρ) : PE X e (tD X.K U g) := h.imp fun σ H Q h => by
  obtain ⟨ρ, S, m, sl, hm, k⟩ := h
  exact ⟨ρ, S, m, sl, (w ρ).symm.trans hm, k⟩

/-! ### operators -/
variable {a b c : Expr} {Ua Ub Uc : List Nat} {fa fb fc : Env → R M} {pos : Pos}
theorem imp_op {g : M → M → R M} {σ : L2.St} {H : Hp} {Q : VK} (h : tD X.K [] (fun ρ => fa ρ >>= fun x => fb ρ >>= fun y => g x y) σ H Q) : tOp (rD X.K g) (tD X.K Ua fa) (tD X.K Ub fb) σ H Q := by
  obtain ⟨ρ, S, m, sl, hm, k⟩ := h
  obtain ⟨x, h1, h2⟩ := R.bind_ok hm
  obtain ⟨y, h4, h3⟩ := R.bind_ok h2
  exact ⟨ρ, S, x, sl, h1, fun v H1 T e1 is1 _ => ⟨ρ, S, y, sl.ex e1, h4, fun w H2 T2 e2 is2 _ => ⟨x, y, T, T2, m, is1.ex e2, is2, h3, fun v3 H3 U e3 is3 nw =>
    k v3 H3 U ((e1.trans e2).trans e3) is3 (nw.back (e1.trans e2)).fr⟩⟩⟩
theorem pd_op {op : Operator} {g : M → M → R M} (ho : OpR X (binaryOp op) (rD X.K g)) (ha : PE X a (tD X.K Ua fa)) (hb : PE X b (tD X.K Ub fb)) :
    PE X (.BinOp a op b pos) (tD X.K [] fun ρ => fa ρ >>= fun x => fb ρ >>= fun y => g x y) := (pe_op ho ha hb).imp fun _ _ _ h => imp_op h
theorem pd_un {op : UnaryOp} {g : M → R M} (ho : UnR X (unaryOp op) (rDU X.K g)) (ha : PE X a (tD X.K Ua fa)) : PE X (.UnaryOp op a pos) (tD X.K [] fun ρ => fa ρ >>= g) := (pe_un ho ha).imp fun σ H Q h => by
  obtain ⟨ρ, S, m, sl, hm, k⟩ := h
  obtain ⟨x, h1, h2⟩ := R.bind_ok hm
  exact ⟨ρ, S, x, sl, h1, fun v H1 T e1 is1 _ => ⟨x, T, m, is1, h2, fun v3 H3 U e3 is3 nw => k v3 H3 U (e1.trans e3) is3 (nw.back e1).fr⟩⟩
theorem pd_cmp {op : CmpOp} {g : M → M → R M} (ho : OpR X (compareOp op) (rD X.K g)) (ha : PE X a (tD X.K Ua fa)) (hb : PE X b (tD X.K Ub fb)) (hm : behindInMarks op b = false := by first | exact nomark _ | rfl) :
    PE X (.Compare a [op] [b] pos) (tD X.K [] fun ρ => fa ρ >>= fun x => fb ρ >>= fun y => g x y) := (pe_cmpR ho ha hb hm).imp fun _ _ _ h => imp_op h
theorem ptd_cmp {op : CmpOp} {g : M → M → R M} (ho : OpR X (compareOp op) (rD X.K g)) (ha : PE X a (tD X.K Ua fa)) (hb : PE X b (tD X.K Ub fb)) (hm : behindInMarks op b = false := by first | exact nomark _ | rfl) :
    PT X (.Compare a [op] [b] pos) (tDT X.K fun ρ => fa ρ >>= fun x => fb ρ >>= fun y => g x y >>= asB) := (pt_cmpR ho ha hb hm).imp fun σ H Q h => by
  obtain ⟨ρ, S, m, sl, hm, k⟩ := h
  obtain ⟨x, h1, h2⟩ := R.bind_ok hm
  obtain ⟨y, h3, h5⟩ := R.bind_ok h2
  obtain ⟨z, h6, h4⟩ := R.bind_ok h5
  refine imp_op (X := X) ⟨ρ, S, z, sl, by simp only [h1, h3, h6, R.ok_bind], fun v H2 T e is fr => ?_⟩
  cases z with
  | im i =>
    cases i with
    | bl b =>
      cases h4
      obtain ⟨_, hi⟩ := is.im_nil
      cases hi
      exact ⟨m, rfl, k H2 e⟩
    | _ => cases h4
  | _ => cases h4
/-- a op b op' c -/
def chain (g g' : M → M → R M) (x y : M) (z : Unit → R M) : R M := g x y >>= asB >>= fun k => if k then z () >>= g' y else .ok (mB false)
theorem imp_chain {g g' : M → M → R M} {σ : L2.St} {H : Hp} {Q : VK} (h : tD X.K [] (fun ρ => fa ρ >>= fun x => fb ρ >>= fun y => chain g g' x y fun _ => fc ρ) σ H Q) :
    tChain (rD X.K g) (rD X.K g') (tD X.K Ua fa) (tD X.K Ub fb) (tD X.K Uc fc) σ H Q := by
  obtain ⟨ρ, S, m, sl, hm, k⟩ := h
  obtain ⟨x, h1, h2⟩ := R.bind_ok hm
  obtain ⟨y, h8, h9⟩ := R.bind_ok h2
  obtain ⟨kb, h10, h4⟩ := R.bind_ok h9
  obtain ⟨z, h3, h5⟩ := R.bind_ok h10
  refine ⟨ρ, S, x, sl, h1, fun v H1 T e1 is1 _ => ⟨ρ, S, y, sl.ex e1, h8, fun w H2 T2 e2 is2 _ => ⟨x, y, T, T2, z, is1.ex e2, is2, h3, fun v3 H3 U e3 is3 nw => ?_⟩⟩⟩
  cases z with
  | im i =>
    cases i with
    | bl b =>
      cases h5
      obtain ⟨_, hi⟩ := is3.im_nil
      cases hi
      refine ⟨kb, rfl, ?_⟩
      have e3' := (e1.trans e2).trans e3
      cases kb with
      | true =>
        simp only [if_true] at h4 ⊢
        obtain ⟨z, h6, h7⟩ := R.bind_ok h4
        exact ⟨ρ, S, z, sl.ex e3', h6, fun w4 H4 T4 e4 is4 _ => ⟨y, z, T2, T4, m, (is2.ex e3).ex e4, is4, h7, fun v5 H5 U5 e5 is5 nw5 => k v5 H5 U5 ((e3'.trans e4).trans e5) is5 (nw5.back (e3'.trans e4)).fr⟩⟩
      | false =>
        simp only [Bool.false_eq_true, if_false] at h4 ⊢
        cases h4
        exact k _ H3 [] e3' (.im .bl) Fr.nil
    | _ => cases h5
  | _ => cases h5
theorem pd_chain {op op' : CmpOp} {g g' : M → M → R M} (ho : OpR X (compareOp op) (rD X.K g)) (ho' : OpR X (compareOp op') (rD X.K g')) (ha : PE X a (tD X.K Ua fa)) (hb : PE X b (tD X.K Ub fb)) (hc : PE X c (tD X.K Uc fc))
    (hm : lastMarks [op, op'] [b, c] = false := by with_unfolding_all rfl) : PE X (.Compare a [op, op'] [b, c] pos) (tD X.K [] fun ρ => fa ρ >>= fun x => fb ρ >>= fun y => chain g g' x y fun _ => fc ρ) :=
  (pe_chain ho ho' ha hb hc hm).imp fun _ _ _ h => imp_chain h
/-- a test by a value that is a bool -/
theorem imp_tB {f : Env → R M} {U : List Nat} {σ : L2.St} {H : Hp} {Q : Bool → Hp → Prop} (h : tDT X.K (fun ρ => f ρ >>= asB) σ H Q) : tD X.K U f σ H (fun x H' => ∃ k, x = .bl k ∧ Q k H') := by
  obtain ⟨ρ, S, m, sl, hm, k⟩ := h
  obtain ⟨x, h1, h2⟩ := R.bind_ok hm
  refine ⟨ρ, S, x, sl, h1, fun v H2 T e is fr => ?_⟩
  cases x with
  | im i =>
    cases i with
    | bl b =>
      cases h2
      obtain ⟨_, hi⟩ := is.im_nil
      cases hi
      exact ⟨m, rfl, k H2 e⟩
    | _ => cases h2
  | _ => cases h2
theorem ptd_val (h : PE X a (tD X.K Ua fa)) (he : ∀ whole, isTrue a X.env whole = (do let v ← whole; standAt a.pos; holding [v] (truthy v)) := by intro _; rfl) : PT X a (tDT X.K fun ρ => fa ρ >>= asB) :=
  (pt_val h he).imp fun _ _ _ h => imp_tB h
theorem ptd_chain {op op' : CmpOp} {g g' : M → M → R M} (ho : OpR X (compareOp op) (rD X.K g)) (ho' : OpR X (compareOp op') (rD X.K g')) (ha : PE X a (tD X.K Ua fa)) (hb : PE X b (tD X.K Ub fb)) (hc : PE X c (tD X.K Uc fc))
    (hm : lastMarks [op, op'] [b, c] = false := by with_unfolding_all rfl) : PT X (.Compare a [op, op'] [b, c] pos) (tDT X.K fun ρ => (fa ρ >>= fun x => fb ρ >>= fun y => chain g g' x y fun _ => fc ρ) >>= asB) :=
  (pt_chain ho ho' ha hb hc hm).imp fun σ H Q h => by
    obtain ⟨ρ, S, m, sl, hm, k⟩ := h
    obtain ⟨x, h1, h2⟩ := R.bind_ok hm
    refine imp_chain (X := X) ⟨ρ, S, x, sl, h1, fun v H2 T e is fr => ?_⟩
    cases x with
    | im i =>
      cases i with
      | bl b =>
        cases h2
        obtain ⟨_, hi⟩ := is.im_nil
        cases hi
        exact ⟨m, rfl, k H2 e⟩
      | _ => cases h2
    | _ => cases h2

/-! ### and, or, not, if -/
variable {ga gb : Env → R Bool} {rest : List Expr}
theorem ptd_not (ha : PT X a (tDT X.K ga)) : PT X (.UnaryOp .Not a pos) (tDT X.K fun ρ => ga ρ >>= fun b => .ok (!b)) := (pt_not ha).imp fun σ H Q h => by
  obtain ⟨ρ, S, m, sl, hm, k⟩ := h
  obtain ⟨x, h1, h2⟩ := R.bind_ok hm
  cases h2
  exact ⟨ρ, S, x, sl, h1, fun H2 e => k H2 e⟩
def rAnd (a : R Bool) (b : Unit → R Bool) : R Bool := a >>= fun x => if x then b () else .ok false
def rOr (a : R Bool) (b : Unit → R Bool) : R Bool := a >>= fun x => if x then .ok true else b ()
theorem pwd_and1 (ha : PT X a (tDT X.K ga)) : PW X (.BoolOp .And [a] pos) (tDT X.K ga) := pw_and1 ha
theorem pwd_or1 (ha : PT X a (tDT X.K ga)) : PW X (.BoolOp .Or [a] pos) (tDT X.K ga) := pw_or1 ha
theorem pwd_and (ha : PT X a (tDT X.K ga)) (hb : PW X (.BoolOp .And (b :: rest) pos) (tDT X.K gb)) : PW X (.BoolOp .And (a :: b :: rest) pos) (tDT X.K fun ρ => rAnd (ga ρ) fun _ => gb ρ) := (pw_and ha hb).imp fun σ H Q h => by
  obtain ⟨ρ, S, m, sl, hm, k⟩ := h
  obtain ⟨x, h1, h2⟩ := R.bind_ok hm
  refine ⟨ρ, S, x, sl, h1, fun H2 e => ?_⟩
  cases x with
  | true => exact ⟨ρ, S, m, sl.ex e, h2, fun H3 e3 => k H3 (e.trans e3)⟩
  | false =>
    cases h2
    exact k H2 e
theorem pwd_or (ha : PT X a (tDT X.K ga)) (hb : PW X (.BoolOp .Or (b :: rest) pos) (tDT X.K gb)) : PW X (.BoolOp .Or (a :: b :: rest) pos) (tDT X.K fun ρ => rOr (ga ρ) fun _ => gb ρ) := (pw_or ha hb).imp fun σ H Q h => by
  obtain ⟨ρ, S, m, sl, hm, k⟩ := h
  obtain ⟨x, h1, h2⟩ := R.bind_ok hm
  refine ⟨ρ, S, x, sl, h1, fun H2 e => ?_⟩
  cases x with
  | false => exact ⟨ρ, S, m, sl.ex e, h2, fun H3 e3 => k H3 (e.trans e3)⟩
  | true =>
    cases h2
    exact k H2 e
theorem ptd_w {ga : Env → R Bool} (h : PW X a (tDT X.K ga)) : PT X a (tDT X.K ga) := h.pt
/-- .. as values -/
theorem imp_val {e : Expr} {ga : Env → R Bool} {σ : L2.St} {H : Hp} {Q : VK} (h : tD X.K [] (fun ρ => ga ρ >>= fun b => .ok (mB b)) σ H Q) : tDT X.K ga σ H (fun b H' => Q (.bl b) H') := by
  obtain ⟨ρ, S, m, sl, hm, k⟩ := h
  obtain ⟨x, h1, h2⟩ := R.bind_ok hm
  cases h2
  exact ⟨ρ, S, x, sl, h1, fun H2 e => k _ H2 [] e (.im .bl) Fr.nil⟩
theorem pd_not (ha : PE X a (tD X.K Ua fa)) : PE X (.UnaryOp .Not a pos) (tD X.K [] fun ρ => fa ρ >>= fun m => asB m >>= fun b => .ok (mB (!b))) := (pe_not ha).imp fun σ H Q h => by
  obtain ⟨ρ, S, m, sl, hm, k⟩ := h
  obtain ⟨x, h1, h4⟩ := R.bind_ok hm
  obtain ⟨b, h2, h3⟩ := R.bind_ok h4
  cases h3
  refine ⟨ρ, S, x, sl, h1, fun v H2 T e is fr => ?_⟩
  cases x with
  | im i =>
    cases i with
    | bl b' =>
      cases h2
      obtain ⟨_, hi⟩ := is.im_nil
      cases hi
      exact ⟨b, rfl, k _ H2 [] e (.im .bl) Fr.nil⟩
    | _ => cases h2
  | _ => cases h2
/-- a and b, a or b as values that are bools -/
def vAnd (a : R M) (b : Unit → R M) : R M := a >>= fun m => asB m >>= fun x => if x then b () else .ok (mB false)
def vOr (a : R M) (b : Unit → R M) : R M := a >>= fun m => asB m >>= fun x => if x then .ok (mB true) else b ()
theorem pd_one {op} (h : PE X a (tD X.K Ua fa)) : PE X (.BoolOp op [a] pos) (tD X.K Ua fa) := pe_one h
theorem pd_and (ha : PE X a (tD X.K Ua fa)) (hb : PE X (.BoolOp .And (b :: rest) pos) (tD X.K Ub fb)) : PE X (.BoolOp .And (a :: b :: rest) pos) (tD X.K Ub fun ρ => vAnd (fa ρ) fun _ => fb ρ) := (pe_and ha hb).imp fun σ H Q h => by
  obtain ⟨ρ, S, m, sl, hm, k⟩ := h
  obtain ⟨x, h1, h4⟩ := R.bind_ok hm
  obtain ⟨kb, h2, h3⟩ := R.bind_ok h4
  refine ⟨ρ, S, x, sl, h1, fun v H2 T e is fr => ?_⟩
  cases x with
  | im i =>
    cases i with
    | bl b' =>
      cases h2
      obtain ⟨_, hi⟩ := is.im_nil
      cases hi
      refine ⟨kb, rfl, ?_⟩
      cases kb with
      | true => exact ⟨ρ, S, m, sl.ex e, h3, fun v3 H3 T3 e3 is3 fr3 => k v3 H3 T3 (e.trans e3) is3 (fr3.mono e fun _ z => z)⟩
      | false =>
        cases h3
        exact k _ H2 [] e (.im .bl) Fr.nil
    | _ => cases h2
  | _ => cases h2
theorem pd_or (ha : PE X a (tD X.K Ua fa)) (hb : PE X (.BoolOp .Or (b :: rest) pos) (tD X.K Ub fb)) : PE X (.BoolOp .Or (a :: b :: rest) pos) (tD X.K Ub fun ρ => vOr (fa ρ) fun _ => fb ρ) := (pe_or ha hb).imp fun σ H Q h => by
  obtain ⟨ρ, S, m, sl, hm, k⟩ := h
  obtain ⟨x, h1, h4⟩ := R.bind_ok hm
  obtain ⟨kb, h2, h3⟩ := R.bind_ok h4
  refine ⟨ρ, S, x, sl, h1, fun v H2 T e is fr => ?_⟩
  cases x with
  | im i =>
    cases i with
    | bl b' =>
      cases h2
      obtain ⟨_, hi⟩ := is.im_nil
      cases hi
      refine ⟨kb, rfl, ?_⟩
      cases kb with
      | false => exact ⟨ρ, S, m, sl.ex e, h3, fun v3 H3 T3 e3 is3 fr3 => k v3 H3 T3 (e.trans e3) is3 (fr3.mono e fun _ z => z)⟩
      | true =>
        cases h3
        exact k _ H2 [] e (.im .bl) Fr.nil
    | _ => cases h2
  | _ => cases h2
def rIf (c : R Bool) (a b : Unit → R M) : R M := c >>= fun x => if x then a () else b ()
theorem pd_if {c : Expr} {gc : Env → R Bool} (hc : PT X c (tDT X.K gc)) (ha : PE X a (tD X.K Ua fa)) (hb : PE X b (tD X.K Ub fb)) : PE X (.IfExp c a b pos) (tD X.K (Ua ++ Ub) fun ρ => rIf (gc ρ) (fun _ => fa ρ) fun _ => fb ρ) := (pe_ifExp hc ha hb).imp fun σ H Q h => by
  obtain ⟨ρ, S, m, sl, hm, k⟩ := h
  obtain ⟨x, h1, h2⟩ := R.bind_ok hm
  refine ⟨ρ, S, x, sl, h1, fun H2 e => ?_⟩
  cases x with
  | true => exact ⟨ρ, S, m, sl.ex e, h2, fun v3 H3 T3 e3 is3 fr3 => k v3 H3 T3 (e.trans e3) is3 (fr3.mono e fun _ z => List.mem_append_left _ z)⟩
  | false => exact ⟨ρ, S, m, sl.ex e, h2, fun v3 H3 T3 e3 is3 fr3 => k v3 H3 T3 (e.trans e3) is3 (fr3.mono e fun _ z => List.mem_append_right _ z)⟩

/-! ### truth -/
def truM : M → R Bool
  | .im .non => .ok false
  | .im (.bl b) => .ok b
  | .im (.int i) => .ok (i != 0)
  | .im (.str x) => if x.length ≤ sizeLine then .ok ((x.length : Int) != 0) else .no
  | .im (.tup l) => .ok (!l.isEmpty)
  | .lst l => .ok (!l.isEmpty)
  | .tpm l => .ok (!l.isEmpty)
  | _ => .no
theorem isEmpty_len {α β : Type} {l : List α} {k : List β} (h : l.length = k.length) : (!l.isEmpty) = !k.isEmpty := by
  cases l <;> cases k <;> simp at h <;> rfl
theorem ptd_tru (h : PE X a (tD X.K Ua fa)) (he : ∀ whole, isTrue a X.env whole = (do let v ← whole; standAt a.pos; holding [v] (truthy v)) := by intro _; rfl) : PT X a (tDT X.K fun ρ => fa ρ >>= truM) := (pt_truth h he).imp fun σ H Q h => by
  obtain ⟨ρ, S, m, sl, hm, k⟩ := h
  obtain ⟨x, h1, h2⟩ := R.bind_ok hm
  refine ⟨ρ, S, x, sl, h1, fun v H2 T e is fr => ⟨m, ?_, k H2 e⟩⟩
  cases is with
  | im is =>
    cases is with
    | non => cases h2; rfl
    | bl => cases h2; rfl
    | int => cases h2; rfl
    | str =>
      simp only [truM] at h2
      split at h2
      · rename_i hl
        cases h2
        exact ⟨hl, rfl⟩
      · cases h2
    | tup hs r =>
      cases h2
      exact .inr (.inl ⟨_, hs, isEmpty_len r.length.symm⟩)
  | lst hs r =>
    cases h2
    exact .inl ⟨_, .of hs, isEmpty_len r.length.symm⟩
  | tpm hs r =>
    cases h2
    exact .inr (.inl ⟨_, hs, isEmpty_len r.length.symm⟩)
  | _ => cases h2

/-! ### arguments and displays -/
variable {e : Expr} {es : List Expr} {U W : List Nat} {f : Env → R M} {g : Env → R (List M)}
theorem pda_nil : PA X [] (tDA X.K [] fun _ => .ok []) := pa_nil.imp fun σ H Q h => by
  obtain ⟨ρ, S, m, sl, hm, k⟩ := h
  cases hm
  exact k [] H [] (Ex.refl H) .nil fun _ z => (nomatch z)
theorem pda_cons (he : PE X e (tD X.K U f)) (hr : PA X es (tDA X.K W g)) (hs : starEach (e :: es) X.env = (false, eval e X.env) :: starEach es X.env := by rfl) : PA X (e :: es) (tDA X.K (U ++ W) fun ρ => f ρ >>= fun m => g ρ >>= fun ms => .ok (m :: ms)) :=
  (pa_cons he hr hs).imp fun σ H Q h => by
    obtain ⟨ρ, S, m, sl, hm, k⟩ := h
    obtain ⟨x, h1, h4⟩ := R.bind_ok hm
    obtain ⟨y, h2, h3⟩ := R.bind_ok h4
    cases h3
    refine ⟨ρ, S, x, sl, h1, fun v H2 T e is fr => ⟨ρ, S, y, sl.ex e, h2, fun vs H3 Ts e3 is3 fr3 => k _ H3 (T :: Ts) (e.trans e3) (.cons (is.ex e3) fr.nd is3) fun a ha => ?_⟩⟩
    rw [List.flatten_cons] at ha
    rcases List.mem_append.mp ha with ha | ha
    · exact (fr.fr a ha).imp id fun ⟨j, hj, q⟩ => ⟨j, List.mem_append_left _ hj, q⟩
    · exact (fr3 a ha).imp (fresh_back e) fun ⟨j, hj, q⟩ => ⟨j, List.mem_append_right _ hj, q⟩
theorem pdo_nil : PA X [] (tDO X.K fun _ => .ok []) := pa_nil.imp fun σ H Q h => by
  obtain ⟨ρ, S, m, sl, hm, k⟩ := h
  cases hm
  exact k [] H [] (Ex.refl H) .nil .nil
theorem New.app {H H1 : Hp} {T T1 : List Addr} (n : New H T) (t : ∀ a ∈ T, ∃ o, H1 a = some o) (e : Ex H H1) (n1 : New H1 T1) : New H (T ++ T1) :=
  ⟨fun a ha => (List.mem_append.mp ha).elim (n.free a) fun z => fresh_back e (n1.free a z), List.nodup_append.mpr ⟨n.nd, n1.nd, fun a ha b hb q => by
    subst q
    obtain ⟨o, z⟩ := t a ha
    rw [n1.free a hb] at z
    exact nomatch z⟩⟩
theorem pdo_cons (he : PE X e (tD X.K [] f)) (hr : PA X es (tDO X.K g)) (hs : starEach (e :: es) X.env = (false, eval e X.env) :: starEach es X.env := by rfl) : PA X (e :: es) (tDO X.K fun ρ => f ρ >>= fun m => g ρ >>= fun ms => .ok (m :: ms)) :=
  (pa_cons he hr hs).imp fun σ H Q h => by
    obtain ⟨ρ, S, m, sl, hm, k⟩ := h
    obtain ⟨x, h1, h4⟩ := R.bind_ok hm
    obtain ⟨y, h2, h3⟩ := R.bind_ok h4
    cases h3
    exact ⟨ρ, S, x, sl, h1, fun v H2 T e is fr => ⟨ρ, S, y, sl.ex e, h2, fun vs H3 Ts e3 is3 fr3 => k _ H3 (T ++ Ts) (e.trans e3) (.cons (is.ex e3) is3) (New.app fr.new (is.there) e fr3)⟩⟩
/-- a new object laid -/
theorem IsMs.laid {K : PySem.W.Frag} {H : Hp} {p : Addr} {o : HO} {vs : List V} {l : List M} {S : List Addr} (h : IsMs K H vs l S) (hp : H p = none) (ho : NFo o := by intro _ _ q; cases q) : IsMs K (upd H p o) vs l S := h.ex (Ex.new hp ho)
theorem New.cons {H H1 : Hp} {T : List Addr} {p : Addr} (n : New H T) (t : ∀ a ∈ T, ∃ o, H1 a = some o) (hp : H1 p = none) (e : Ex H H1) : New H (p :: T) :=
  ⟨fun a ha => (List.mem_cons.mp ha).elim (fun z => by rw [z]; exact fresh_back e hp) (n.free a), List.nodup_cons.mpr ⟨fun z => (by
    obtain ⟨o, q⟩ := t p z
    rw [hp] at q
    cases q), n.nd⟩⟩
def mLst (l : List M) : R M := if l.length ≤ sizeLine then .ok (.lst l) else .no
def mTup (l : List M) : R M := if l.length ≤ sizeLine then (match allIm l with | some k => .ok (mT k) | none => .ok (.tpm l)) else .no
theorem pd_lst (h : PA X es (tDO X.K g)) : PE X (.List es pos) (tD X.K [] fun ρ => g ρ >>= mLst) := (pe_lst h).imp fun σ H Q h => by
  obtain ⟨ρ, S, m, sl, hm, k⟩ := h
  obtain ⟨x, h1, h2⟩ := R.bind_ok hm
  unfold mLst at h2
  split at h2
  · rename_i hl
    cases h2
    refine ⟨ρ, S, x, sl, h1, fun vs H2 T e is nw => ⟨by rw [is.length]; exact hl, fun p hp => k _ _ (p :: T) (e.trans (Ex.new hp)) (.lst upd_same (is.laid hp)) (New.cons nw is.there hp e).fr⟩⟩
  · cases h2
theorem mTup_is {K : PySem.W.Frag} {H : Hp} {p : Addr} {l : List M} {m : M} {vs : List V} {T : List Addr} (h : mTup l = .ok m) (q : SqT K H p vs) (is : IsMs K H vs l T) : IsM K H (.ref p) m T := by
  unfold mTup at h
  split at h
  · split at h
    · rename_i k hk
      cases h
      obtain rfl := allIm_map hk
      obtain ⟨rfl, h2⟩ := is.of_ims
      exact .im (.tup q h2)
    · cases h
      exact .tpm q is
  · cases h
theorem pd_tup {x1} (h : PA X es (tDO X.K g)) : PE X (.Tuple es x1 pos) (tD X.K [] fun ρ => g ρ >>= mTup) := (pe_tup h).imp fun σ H Q h => by
  obtain ⟨ρ, S, m, sl, hm, k⟩ := h
  obtain ⟨x, h1, h2⟩ := R.bind_ok hm
  refine ⟨ρ, S, x, sl, h1, fun vs H2 T e is nw => ⟨?_, fun p hp => k _ _ T (e.trans (Ex.new hp)) (mTup_is h2 (.of upd_same) (is.laid hp)) nw.fr⟩⟩
  rw [is.length]
  unfold mTup at h2
  split at h2
  · assumption
  · cases h2

/-! ### built-ins by values -/
variable {x : Str} {p : Pos} {id T : String} {gc : List M → R M}
theorem imp_call {σ : L2.St} {H : Hp} {Q : VK} (h : tD X.K [] (fun ρ => g ρ >>= gc) σ H Q) : tCB (rDC X.K gc) (tDA X.K U g) σ H Q := by
  obtain ⟨ρ, S, m, sl, hm, k⟩ := h
  obtain ⟨x, h1, h2⟩ := R.bind_ok hm
  exact ⟨ρ, S, x, sl, h1, fun vs H2 Ts e is _ => ⟨x, Ts, m, is, h2, fun v3 H3 U e3 is3 nw => k v3 H3 U (e.trans e3) is3 (nw.back e).fr⟩⟩
theorem pd_callB (hc : CallR X (.builtin id) (rDC X.K gc)) (hg : Gl X x) (hm : X.mg x = none) (hv : bootBuiltins x = some (.builtin id)) (ha : PA X (e :: es) (tDA X.K U g)) (hn : x ≠ "__name__" := by decide) (hdb : (x == ("__debug__" : Str)) = false := by decide)
    (he : starEach (e :: es) X.env = (false, eval e X.env) :: starEach es X.env := by rfl) (hpl : (backTo pos (starEach es X.env)).any (·.1) = false := by rfl) : PE X (.Call (.Name x p) (e :: es) [] pos) (tD X.K [] fun ρ => g ρ >>= gc) :=
  (pe_callB hc hg hm hv ha hn hdb he hpl).imp fun _ _ _ h => imp_call h
theorem pd_callTy (hc : CallR X (.type T) (rDC X.K gc)) (hg : Gl X x) (hm : X.mg x = none) (hv : bootBuiltins x = some (.type T)) (ha : PA X (e :: es) (tDA X.K U g)) (hn : x ≠ "__name__" := by decide) (hdb : (x == ("__debug__" : Str)) = false := by decide)
    (he : starEach (e :: es) X.env = (false, eval e X.env) :: starEach es X.env := by rfl) (hpl : (backTo pos (starEach es X.env)).any (·.1) = false := by rfl) : PE X (.Call (.Name x p) (e :: es) [] pos) (tD X.K [] fun ρ => g ρ >>= gc) :=
  (pe_callTy hc hg hm hv ha hn hdb he hpl).imp fun _ _ _ h => imp_call h
end
end DL
/-! DL2: places within an object, a slot stored, a run frozen for a while; statements. -/
namespace DL
open PySem L2

/-! ### children by name, by place -/
section
variable {α β : Type}
def setF (f : Str) (y : α) : List (Str × α) → List (Str × α)
  | [] => []
  | (g, x) :: r => if (f == g) = true then (g, y) :: r else (g, x) :: setF f y r
theorem look_ix {f : Str} : ∀ {l : List (Str × α)} {x : α}, l.lookup f = some x → ∃ k, (l.map (·.2))[k]? = some x ∧
    (∀ l' : List (Str × β), l'.map (·.1) = l.map (·.1) → l'.lookup f = (l'.map (·.2))[k]?) ∧ ∀ y, (setF f y l).map (·.1) = l.map (·.1) ∧ (setF f y l).map (·.2) = (l.map (·.2)).set k y
  | [], x, h => by simp at h
  | (g, z) :: r, x, h => by
    rw [List.lookup_cons] at h
    by_cases e : (f == g) = true
    · rw [e] at h
      cases h
      refine ⟨0, rfl, fun l' hl => ?_, fun y => ?_⟩
      · cases l' with
        | nil => simp at hl
        | cons q r' =>
          obtain ⟨q1, q2⟩ := q
          simp only [List.map_cons, List.cons.injEq] at hl
          rw [List.lookup_cons, hl.1, e]
          rfl
      · unfold setF
        rw [if_pos e]
        exact ⟨rfl, rfl⟩
    · have e' : (f == g) = false := by simpa using e
      rw [e'] at h
      obtain ⟨k, h1, h2, h3⟩ := look_ix (f := f) (l := r) h
      refine ⟨k + 1, h1, fun l' hl => ?_, fun y => ?_⟩
      · cases l' with
        | nil => simp at hl
        | cons q r' =>
          obtain ⟨q1, q2⟩ := q
          simp only [List.map_cons, List.cons.injEq] at hl
          rw [List.lookup_cons, hl.1, e']
          exact h2 r' hl.2
      · unfold setF
        rw [if_neg e]
        obtain ⟨h4, h5⟩ := h3 y
        simp only [List.map_cons, h4, h5, List.set_cons_succ]
        exact ⟨trivial, trivial⟩
end
theorem IsMs.nth {K : PySem.W.Frag} {H : Hp} : ∀ {vs : List V} {l : List M} {S : List Addr} (k : Nat) {m : M}, IsMs K H vs l S → l[k]? = some m → ∃ v S1 T S2, vs[k]? = some v ∧ S = S1 ++ T ++ S2 ∧ IsM K H v m T ∧
    ∀ H' v' m' T', TK H H' → (∀ a ∈ S1 ++ S2, ∀ o, H a = some o → H' a = some o) → IsM K H' v' m' T' → IsMs K H' (vs.set k v') (l.set k m') (S1 ++ T' ++ S2)
  | _, _, _, k, _, .nil, h => by simp at h
  | _, _, _, 0, _, .cons (v := v) (S := S) (T := T) h r, e => by
    have e : _ = _ := Option.some.inj e
    subst e
    refine ⟨v, [], S, T, rfl, by simp, h, fun H' v' m' T' t f is => ?_⟩
    simp only [List.set_cons_zero, List.nil_append]
    exact .cons is (r.keep t fun a ha => f a (by simpa using ha))
  | _, _, _, k + 1, _, .cons (v := v) (S := S) (T := T) h r, e => by
    obtain ⟨w, S1, T1, S2, h1, h2, h3, h4⟩ := IsMs.nth (m := _) k r e
    refine ⟨w, S ++ S1, T1, S2, h1, by rw [h2]; simp [List.append_assoc], h3, fun H' v' m' T' t f is => ?_⟩
    simp only [List.set_cons_succ]
    have q := h4 H' v' m' T' t (fun a ha => f a (by
      rw [List.append_assoc]
      exact List.mem_append_right _ ha)) is
    have := IsMs.cons (h.keep t fun a ha => f a (by
      rw [List.append_assoc]
      exact List.mem_append_left _ ha)) q
    simpa only [List.append_assoc] using this

/-! ### places -/
inductive Stp where
  | fld (C : Addr) (f : Str)
def subM : M → List Stp → Option M
  | m, [] => some m
  | .obj C' fs, .fld C f :: p => if C' = C then match fs.lookup f with
    | some m => subM m p
    | none => none
    else none
  | _, _ => none
def updM : M → List Stp → M → M
  | _, [], n => n
  | .obj C' fs, .fld _ f :: p, n => match fs.lookup f with
    | some m => .obj C' (setF f (updM m p n) fs)
    | none => .obj C' fs
  | m, _, _ => m
def atV (H : Hp) : V → List Stp → Option V
  | v, [] => some v
  | .ref a, .fld C f :: p => match H a with
    | some (.ins C' _ vs) => if C' = C then match vs.lookup f with
      | some v => atV H v p
      | none => none
      else none
    | _ => none
  | _, _ => none
theorem nodup3 {S1 T S2 T' : List Addr} (h : (S1 ++ T ++ S2).Nodup) (n : T'.Nodup) (s : ∀ a ∈ T', a ∈ T ∨ a ∉ S1 ++ T ++ S2) : (S1 ++ T' ++ S2).Nodup := by
  rw [List.nodup_append, List.nodup_append] at h ⊢
  obtain ⟨⟨h1, h2, h3⟩, h4, h5⟩ := h
  refine ⟨⟨h1, n, fun a ha b hb e => ?_⟩, h4, fun a ha b hb e => ?_⟩
  · subst e
    rcases s a hb with z | z
    · exact h3 a ha a z rfl
    · exact z (List.mem_append_left _ (List.mem_append_left _ ha))
  · subst e
    rcases List.mem_append.mp ha with ha | ha
    · exact h5 a (List.mem_append_left _ ha) a hb rfl
    · rcases s a ha with z | z
      · exact h5 a (List.mem_append_right _ z) a hb rfl
      · exact z (List.mem_append_right _ hb)
/-- what stands at a place, and the whole when that has changed -/
theorem IsM.place {K : PySem.W.Frag} {H : Hp} : ∀ (p : List Stp) {v : V} {m n : M} {S : List Addr}, IsM K H v m S → S.Nodup → subM m p = some n → ∃ w T, atV H v p = some w ∧ IsM K H w n T ∧ (∀ a ∈ T, a ∈ S) ∧ T.Nodup ∧
    ∀ H' n' T', Fm T H H' → IsM K H' w n' T' → T'.Nodup → (∀ a ∈ T', a ∈ T ∨ a ∉ S) → ∃ S', IsM K H' v (updM m p n') S' ∧ S'.Nodup ∧ ∀ a ∈ S', a ∈ T' ∨ (a ∈ S ∧ a ∉ T)
  | [], v, m, n, S, h, nd, e => by
    cases e
    exact ⟨v, S, rfl, h, fun _ z => z, nd, fun H' n' T' _ is nd' s => ⟨T', by unfold updM; exact is, nd', fun a ha => .inl ha⟩⟩
  | .fld C f :: p, v, m, n, S, h, nd, e => by
    cases h with
    | obj ha hn hr =>
      rename_i a C' dx vs fs S
      unfold subM at e
      by_cases hC : C' = C
      case neg => rw [if_neg hC] at e; cases e
      rw [if_pos hC] at e
      cases hl : fs.lookup f with
      | none => rw [hl] at e; cases e
      | some m1 =>
        rw [hl] at e
        have e : subM m1 p = some n := e
        obtain ⟨k, h1, h2, h3⟩ := look_ix (β := V) hl
        obtain ⟨v1, S1, T1, S2, g1, rfl, g3, g4⟩ := hr.nth k h1
        obtain ⟨k', h1', h2', h3'⟩ := look_ix (β := M) (show vs.lookup f = some v1 by rw [h2 vs hn]; exact g1)
        rw [List.nodup_cons] at nd
        obtain ⟨nd0, nd1⟩ := nd
        have ndT : T1.Nodup := by
          rw [List.nodup_append, List.nodup_append] at nd1
          exact nd1.1.2.1
        obtain ⟨w, T, q1, q2, q3, q4, q5⟩ := IsM.place p g3 ndT e
        have hv : vs.lookup f = some v1 := by rw [h2 vs hn]; exact g1
        refine ⟨w, T, ?_, q2, fun b hb => List.mem_cons_of_mem _ (List.mem_append_left _ (List.mem_append_right _ (q3 b hb))), q4, fun H' n' T' fm is nd' s => ?_⟩
        · unfold atV
          rw [ha]
          simp only [hv, if_pos hC]
          exact q1
        · obtain ⟨T1', r1, r2, r3⟩ := q5 H' n' T' fm is nd' fun b hb => (s b hb).imp id fun z y => z (List.mem_cons_of_mem _ (List.mem_append_left _ (List.mem_append_right _ y)))
          have r3' : ∀ b ∈ T1', b ∈ T1 ∨ b ∉ a :: (S1 ++ T1 ++ S2) := fun b hb => (r3 b hb).elim (fun z => (s b z).imp (q3 b) id) fun z => .inl z.1
          have keep : ∀ b ∈ S1 ++ S2, ∀ o, H b = some o → H' b = some o := fun b hb o hbo => fm.keep b o hbo fun z => by
            rw [List.nodup_append, List.nodup_append] at nd1
            rcases List.mem_append.mp hb with y | y
            · exact nd1.1.2.2 b y b (q3 b z) rfl
            · exact nd1.2.2 b (List.mem_append_right _ (q3 b z)) b y rfl
          have ha' : H' a = some (.ins C' dx vs) := fm.keep a _ ha fun z => nd0 (List.mem_append_left _ (List.mem_append_right _ (q3 a z)))
          refine ⟨a :: (S1 ++ T1' ++ S2), ?_, ?_, fun b hb => ?_⟩
          · unfold updM
            simp only [hl]
            obtain ⟨h4, h5⟩ := h3 (updM m1 p n')
            refine .obj ha' (by rw [h4]; exact hn) ?_
            rw [h5]
            have := g4 H' v1 _ T1' fm.tk keep r1
            rwa [show (vs.map (·.2)).set k v1 = vs.map (·.2) from by
              refine List.ext_getElem? fun j => ?_
              by_cases hj : k = j
              · subst hj
                rw [g1, List.getElem?_set_self (List.getElem?_eq_some_iff.mp g1).1]
              · rw [List.getElem?_set_ne hj]] at this
          · rw [List.nodup_cons]
            refine ⟨fun z => ?_, nodup3 nd1 r2 fun b hb => (r3' b hb).imp id fun z y => z (List.mem_cons_of_mem _ y)⟩
            rcases List.mem_append.mp z with z | z
            · rcases List.mem_append.mp z with z | z
              · exact nd0 (List.mem_append_left _ (List.mem_append_left _ z))
              · rcases r3' a z with z | z
                · exact nd0 (List.mem_append_left _ (List.mem_append_right _ z))
                · exact z List.mem_cons_self
            · exact nd0 (List.mem_append_right _ z)
          · have nT : ∀ b, b ∈ S1 ∨ b ∈ S2 → b ∉ T := fun b hb z => by
              rw [List.nodup_append, List.nodup_append] at nd1
              rcases hb with y | y
              · exact nd1.1.2.2 b y b (q3 b z) rfl
              · exact nd1.2.2 b (List.mem_append_right _ (q3 b z)) b y rfl
            rcases List.mem_cons.mp hb with rfl | hb
            · exact .inr ⟨List.mem_cons_self, fun z => nd0 (List.mem_append_left _ (List.mem_append_right _ (q3 _ z)))⟩
            · rcases List.mem_append.mp hb with z | z
              · rcases List.mem_append.mp z with z | z
                · exact .inr ⟨List.mem_cons_of_mem _ (List.mem_append_left _ (List.mem_append_left _ z)), nT b (.inl z)⟩
                · exact (r3 b z).imp id fun y => ⟨List.mem_cons_of_mem _ (List.mem_append_left _ (List.mem_append_right _ y.1)), y.2⟩
              · exact .inr ⟨List.mem_cons_of_mem _ (List.mem_append_right _ z), nT b (.inr z)⟩
    | _ => cases e

/-! ### a slot stored, whatever its value's footprint -/
theorem Rel.put {r : Rn} {H : Hp} {σ : L2.St} {ρ : Env} {S : Nat → List Addr} {i : Nat} {v : V} {m : M} {T : List Addr} (h : Rel r H σ ρ S) (hi : r.md[i]? = some Md.loc ∨ r.md[i]? = some Md.any) (hm : IsM r.K H v m T) (nd : T.Nodup)
    (own : r.md[i]? = some Md.loc → ∀ a ∈ T, r.Own a) (dis : ∀ a ∈ T, r.Own a → ∀ j, j ≠ i → a ∉ S j) : Rel r H (σ.set i (some v)) (ρ.set i (some m)) (updS S i T) := by
  refine ⟨⟨by simp [h.sl.len], fun j => ?_, fun j hj => ?_, fun j m' q => ?_⟩, by simp [h.mdl], h.fm, fun j a ha => ?_, fun j k a hjk ha hb => ?_, fun j hj a ha => ?_, fun j hj => ?_, fun j hj => ?_, h.bnf⟩
  · by_cases hj : j = i
    · subst hj; rw [updS_same]; exact nd
    · rw [updS_ne hj]; exact h.sl.nd j
  · have hl : i < ρ.length := by
      rw [← h.mdl]
      rcases hi with z | z <;> exact (List.getElem?_eq_some_iff.mp z).1
    have hj : ρ.length ≤ j := by simpa using hj
    rw [updS_ne (by omega)]
    exact h.sl.out j hj
  · by_cases hj : j = i
    · subst hj
      have hl : j < ρ.length := by
        have := (List.getElem?_eq_some_iff.mp q).1
        simpa using this
      rw [List.getElem?_set_self hl] at q
      have q : some m = some m' := Option.some.inj q
      cases q
      refine ⟨v, ?_, ?_⟩
      · rw [List.getElem?_set_self (by rw [h.sl.len]; exact hl)]
      · rw [updS_same]; exact hm
    · rw [List.getElem?_set_ne (Ne.symm hj)] at q
      obtain ⟨v', a, b⟩ := h.sl.at_ j m' q
      refine ⟨v', by rw [List.getElem?_set_ne (Ne.symm hj)]; exact a, by rw [updS_ne hj]; exact b⟩
  · by_cases hj : j = i
    · subst hj
      rw [updS_same] at ha
      exact hm.there a ha
    · rw [updS_ne hj] at ha
      exact h.there j a ha
  · by_cases hj : j = i
    · subst hj
      rw [updS_same] at ha
      rw [updS_ne (Ne.symm hjk)] at hb
      exact fun o => dis a ha o k (Ne.symm hjk) hb
    · rw [updS_ne hj] at ha
      by_cases hk : k = i
      · subst hk
        rw [updS_same] at hb
        exact fun o => dis a hb o j hj ha
      · rw [updS_ne hk] at hb
        exact h.sep j k a hjk ha hb
  · by_cases hk : j = i
    · subst hk
      rw [updS_same] at ha
      rcases hj with z | z
      · exact own z a ha
      · rcases hi with y | y <;> (rw [z] at y; cases y)
    · rw [updS_ne hk] at ha
      exact h.own j hj a ha
  · have hk : j ≠ i := by
      rintro rfl
      rcases hi with z | z <;> (rw [z] at hj; cases hj)
    rw [List.getElem?_set_ne (Ne.symm hk)]
    exact h.io j hj
  · have hk : j ≠ i := by
      rintro rfl
      rcases hi with z | z <;> (rw [z] at hj; cases hj)
    rw [List.getElem?_set_ne (Ne.symm hk), List.getElem?_set_ne (Ne.symm hk), updS_ne hk]
    exact h.ro j hj

/-! ### a run frozen for a while: each slot as md' says -/
structure Cmp (md md' : List Md) : Prop where
  len : md'.length = md.length
  at_ : ∀ (i : Nat) (x : Md), md'[i]? = some x → x = .ro ∨ md[i]? = some x ∨ (x = .io ∧ md[i]? = some Md.loc)
def cmpB (md md' : List Md) : Bool := md'.length == md.length && (List.range md'.length).all fun i => match md'[i]?, md[i]? with
  | some x', some x => x' == .ro || x == x' || (x' == .io && x == .loc)
  | _, _ => true
theorem cmp_by {md md' : List Md} (h : cmpB md md' = true) : Cmp md md' := by
  unfold cmpB at h
  simp only [Bool.and_eq_true, beq_iff_eq, List.all_eq_true, List.mem_range] at h
  refine ⟨h.1, fun i x e => ?_⟩
  have hl := (List.getElem?_eq_some_iff.mp e).1
  have := h.2 i hl
  rw [e, List.getElem?_eq_getElem (by rw [← h.1]; exact hl)] at this
  simp only [Bool.or_eq_true, beq_iff_eq, Bool.and_eq_true] at this
  rcases this with (z | z) | ⟨z, y⟩
  · exact .inl z
  · exact .inr (.inl (by rw [List.getElem?_eq_getElem (by rw [← h.1]; exact hl), z]))
  · exact .inr (.inr ⟨z, by rw [List.getElem?_eq_getElem (by rw [← h.1]; exact hl), y]⟩)
theorem Cmp.own {md md' : List Md} (c : Cmp md md') {i : Nat} (h : md'[i]? = some Md.loc ∨ md'[i]? = some Md.io) : md[i]? = some Md.loc ∨ md[i]? = some Md.io := by
  rcases h with h | h
  · rcases c.at_ i _ h with z | z | z
    · cases z
    · exact .inl z
    · cases z.1
  · rcases c.at_ i _ h with z | z | z
    · cases z
    · exact .inr z
    · exact .inl z.2
def fzB (md' : List Md) (S : Nat → List Addr) : List Addr := (((List.range md'.length).filter fun i => md'[i]? == some .loc || md'[i]? == some .io).map S).flatten
theorem mem_fzB {md' : List Md} {S : Nat → List Addr} {a : Addr} : a ∈ fzB md' S ↔ ∃ i, (md'[i]? = some Md.loc ∨ md'[i]? = some Md.io) ∧ a ∈ S i := by
  unfold fzB
  simp only [List.mem_flatten, List.mem_map, List.mem_filter, Bool.or_eq_true, beq_iff_eq, List.mem_range]
  constructor
  · rintro ⟨l, ⟨i, ⟨h1, h2⟩, rfl⟩, h3⟩
    exact ⟨i, h2, h3⟩
  · rintro ⟨i, h2, h3⟩
    exact ⟨_, ⟨i, ⟨by rcases h2 with z | z <;> exact (List.getElem?_eq_some_iff.mp z).1, h2⟩, rfl⟩, h3⟩
def Rn.fz (r : Rn) (md' : List Md) (H : Hp) (σ : L2.St) (ρ : Env) (S : Nat → List Addr) : Rn := { K := r.K, H0 := H, B := fzB md' S, md := md', σ1 := σ, ρ1 := ρ, S1 := S }
theorem Rel.fz {r : Rn} {H : Hp} {σ : L2.St} {ρ : Env} {S : Nat → List Addr} (h : Rel r H σ ρ S) {md' : List Md} (c : Cmp r.md md') : Rel (r.fz md' H σ ρ S) H σ ρ S := by
  have up : ∀ a i, a ∈ S i → (r.fz md' H σ ρ S).Own a → ∃ k, (r.md[k]? = some Md.loc ∨ r.md[k]? = some Md.io) ∧ a ∈ S k := fun a i ha o => by
    rcases o with z | z
    · obtain ⟨o, q⟩ := h.there i a ha
      have z : H a = none := z
      rw [z] at q; cases q
    · obtain ⟨k, h1, h2⟩ := mem_fzB.mp z
      exact ⟨k, c.own h1, h2⟩
  refine ⟨h.sl, by show md'.length = _; rw [c.len, h.mdl], Fm.refl _ _, h.there, fun i j a hij ha hb o => ?_, fun i hi a ha => .inr (mem_fzB.mpr ⟨i, hi, ha⟩), fun i hi => rfl, fun i hi => ⟨rfl, rfl, rfl⟩, fun a ha => h.nf (by obtain ⟨i, h1, h3⟩ := mem_fzB.mp ha; exact h.own i (c.own h1) a h3)⟩
  obtain ⟨k, h2, h3⟩ := up a i ha o
  exact h.sep i j a hij ha hb (h.own k h2 a h3)
theorem fzB_own {r : Rn} {H : Hp} {σ : L2.St} {ρ : Env} {S : Nat → List Addr} (h : Rel r H σ ρ S) {md' : List Md} (c : Cmp r.md md') {a : Addr} (ha : a ∈ fzB md' S) : r.Own a := by
  obtain ⟨i, h1, h3⟩ := mem_fzB.mp ha
  exact h.own i (c.own h1) a h3
theorem fz_up {r : Rn} {H : Hp} {σ : L2.St} {ρ : Env} {S : Nat → List Addr} (h : Rel r H σ ρ S) {md' : List Md} (c : Cmp r.md md') {a : Addr} (o : (r.fz md' H σ ρ S).Own a) : r.Own a := by
  rcases o with z | z
  · exact h.new z
  · exact fzB_own h c z
def wipeE (W : List Nat) (ρ : Env) : Env := (List.range ρ.length).map fun i => if W.contains i then none else (ρ[i]?).join
theorem wipeE_get {W : List Nat} {ρ : Env} {i : Nat} {m : M} (h : (wipeE W ρ)[i]? = some (some m)) : W.contains i = false ∧ ρ[i]? = some (some m) := by
  unfold wipeE at h
  rw [List.getElem?_map] at h
  by_cases hl : i < ρ.length
  · rw [List.getElem?_range hl] at h
    simp only [Option.map_some, Option.some.injEq] at h
    by_cases hc : W.contains i = true
    · rw [if_pos hc] at h; cases h
    · rw [if_neg hc] at h
      refine ⟨by simpa using hc, ?_⟩
      rw [List.getElem?_eq_getElem hl] at h ⊢
      simp only [Option.join_some] at h
      rw [h]
  · rw [List.getElem?_eq_none (by simpa using hl)] at h
    cases h
theorem wipeE_other {W : List Nat} {ρ : Env} {i : Nat} (h : W.contains i = false) : (wipeE W ρ)[i]? = ρ[i]? := by
  unfold wipeE
  rw [List.getElem?_map]
  by_cases hl : i < ρ.length
  · rw [List.getElem?_range hl]
    simp only [Option.map_some]
    rw [if_neg (by simpa using h), List.getElem?_eq_getElem hl]
    rfl
  · rw [List.getElem?_eq_none (by simpa using hl), List.getElem?_eq_none (by simpa using hl)]
    rfl
theorem wipeE_nil (ρ : Env) : wipeE [] ρ = ρ := List.ext_getElem? fun i => wipeE_other rfl
theorem wipeE_length (W : List Nat) (ρ : Env) : (wipeE W ρ).length = ρ.length := by simp [wipeE]
def wipeS (W : List Nat) (S : Nat → List Addr) : Nat → List Addr := fun i => if W.contains i then [] else S i
theorem mem_wipeS {W : List Nat} {S : Nat → List Addr} {i : Nat} {a : Addr} (h : a ∈ wipeS W S i) : W.contains i = false ∧ a ∈ S i := by
  unfold wipeS at h
  by_cases hc : W.contains i = true
  · rw [if_pos hc] at h; cases h
  · rw [if_neg hc] at h
    exact ⟨by simpa using hc, h⟩
/-- the end of the while: the slots W, which may stand for what was there, are forgotten -/
theorem Rel.thaw {r : Rn} {H : Hp} {σ : L2.St} {ρ : Env} {S : Nat → List Addr} (h : Rel r H σ ρ S) {md' : List Md} {W : List Nat} (c : Cmp r.md md') (hW : ∀ (i : Nat), md'[i]? = some Md.any → W.contains i = true) (hW2 : ∀ (i : Nat), W.contains i = true → r.md[i]? = some Md.any ∨ r.md[i]? = some Md.loc) {H' : Hp} {σ' : L2.St} {ρ' : Env} {S' : Nat → List Addr} (h' : Rel (r.fz md' H σ ρ S) H' σ' ρ' S') :
    Rel r H' σ' (wipeE W ρ') (wipeS W S') := by
  have fm' : Fm (fzB md' S) H H' := h'.fm
  have ro : ∀ i, md'[i]? = some Md.ro → σ'[i]? = σ[i]? ∧ ρ'[i]? = ρ[i]? ∧ S' i = S i := fun i e => h'.ro i e
  have mdl' : md'.length = ρ'.length := h'.mdl
  refine ⟨⟨?_, fun i => ?_, fun i hi => ?_, fun i m q => ?_⟩, by rw [wipeE_length, ← mdl', c.len], ⟨fun a o e n => ?_, h.fm.tk.trans fm'.tk⟩, fun i a ha => ?_, fun i j a hij ha hb => ?_, fun i hi a ha => ?_, fun i hi => ?_, fun i hi => ?_, h.bnf⟩
  · rw [h'.sl.len, wipeE_length]
  · unfold wipeS
    split
    · exact List.nodup_nil
    · exact h'.sl.nd i
  · rw [wipeE_length] at hi
    unfold wipeS
    rw [h'.sl.out i hi]
    split <;> rfl
  · obtain ⟨hc, q⟩ := wipeE_get q
    obtain ⟨v, a, b⟩ := h'.sl.at_ i m q
    refine ⟨v, a, ?_⟩
    unfold wipeS
    rw [if_neg (by simpa using hc)]
    exact b
  · refine fm'.keep a o (h.fm.keep a o e n) fun z => ?_
    rcases fzB_own h c z with y | y
    · rw [e] at y; cases y
    · exact n y
  · exact h'.there i a (mem_wipeS ha).2
  · obtain ⟨ci, ha⟩ := mem_wipeS ha
    obtain ⟨cj, hb⟩ := mem_wipeS hb
    intro o
    by_cases o' : (r.fz md' H σ ρ S).Own a
    · exact h'.sep i j a hij ha hb o'
    · -- both slots stand as they were
      have was : ∀ k, W.contains k = false → a ∈ S' k → a ∈ S k := fun k ck hk => by
        by_cases hl : k < md'.length
        · have e : md'[k]? = some md'[k] := List.getElem?_eq_getElem hl
          cases q : md'[k] with
          | loc => exact absurd (h'.own k (.inl (by rw [show (r.fz md' H σ ρ S).md = md' from rfl, e, q])) a hk) o'
          | io => exact absurd (h'.own k (.inr (by rw [show (r.fz md' H σ ρ S).md = md' from rfl, e, q])) a hk) o'
          | any =>
            rw [q] at e
            rw [hW k e] at ck
            cases ck
          | ro =>
            rw [q] at e
            rwa [(ro k e).2.2] at hk
        · rw [h'.sl.out k (by omega)] at hk
          cases hk
      exact h.sep i j a hij (was i ci ha) (was j cj hb) o
  · obtain ⟨ci, ha⟩ := mem_wipeS ha
    have hl : i < md'.length := by
      rw [c.len]
      rcases hi with z | z <;> exact (List.getElem?_eq_some_iff.mp z).1
    have e : md'[i]? = some md'[i] := List.getElem?_eq_getElem hl
    cases q : md'[i] with
    | loc => exact fz_up h c (h'.own i (.inl (by rw [show (r.fz md' H σ ρ S).md = md' from rfl, e, q])) a ha)
    | io => exact fz_up h c (h'.own i (.inr (by rw [show (r.fz md' H σ ρ S).md = md' from rfl, e, q])) a ha)
    | any =>
      rw [q] at e
      rw [hW i e] at ci
      cases ci
    | ro =>
      rw [q] at e
      rw [(ro i e).2.2] at ha
      exact h.own i hi a ha
  · have hl : i < md'.length := by
      rw [c.len]
      exact (List.getElem?_eq_some_iff.mp hi).1
    have e : md'[i]? = some md'[i] := List.getElem?_eq_getElem hl
    rcases c.at_ i _ e with z | z | z
    · rw [z] at e
      exact (ro i e).1.trans (h.io i hi)
    · rw [hi] at z
      have z : Md.io = md'[i] := Option.some.inj z
      rw [← z] at e
      exact (h'.io i e).trans (h.io i hi)
    · rw [hi] at z
      cases z.2
  · have hw : W.contains i = false := by
      by_cases z : W.contains i = true
      · rcases hW2 i z with y | y <;> (rw [hi] at y; cases y)
      · simpa using z
    have hl : i < md'.length := by
      rw [c.len]
      exact (List.getElem?_eq_some_iff.mp hi).1
    have e : md'[i]? = some md'[i] := List.getElem?_eq_getElem hl
    have e2 : md'[i]? = some Md.ro := by
      rcases c.at_ i _ e with z | z | z
      · rw [← z]; exact e
      · rw [hi] at z
        have z : Md.ro = md'[i] := Option.some.inj z
        rw [z]; exact e
      · rw [hi] at z
        cases z.2
    obtain ⟨a, b, d⟩ := ro i e2
    obtain ⟨a', b', d'⟩ := h.ro i hi
    refine ⟨a.trans a', (wipeE_other hw).trans (b.trans b'), ?_⟩
    unfold wipeS
    rw [if_neg (by simpa using hw)]
    exact d.trans d'
end DL
/-! DL3: statements, targets, what is walked, for, while, comprehensions. -/
namespace DL
open PySem PySem.Spec PyProof.Rows L2

/-- how a statement ends -/
inductive Fl where
  | nx (ρ : Env) | rt (m : M) (ρ : Env) | bk (ρ : Env) | ct (ρ : Env)
structure RetOk (r : Rn) (S : Nat → List Addr) (T : List Addr) : Prop where
  nd : T.Nodup
  own : ∀ a ∈ T, r.Own a
  io : ∀ (i : Nat), r.md[i]? = some Md.io → ∀ a ∈ T, a ∉ S i
def endS (r : Rn) (D : Ends) : R Fl → Prop
  | .ok (.nx ρ) => ∀ σ H S, Rel r H σ ρ S → D.nx σ H
  | .ok (.bk ρ) => ∀ σ H S, Rel r H σ ρ S → D.bk σ H
  | .ok (.ct ρ) => ∀ σ H S, Rel r H σ ρ S → D.ct σ H
  | .ok (.rt m ρ) => ∀ v σ H S T, Rel r H σ ρ S → IsM r.K H v m T → RetOk r S T → D.rt v H
  | _ => False
def tS (r : Rn) (f : Env → R Fl) : TS := fun D σ H => ∃ ρ S, Rel r H σ ρ S ∧ endS r D (f ρ)
def PSD (X : Cx) (md : List Md) (st : Stmt) (f : Env → R Fl) : Prop := ∀ r : Rn, r.K = X.K → r.md = md → PS X st (tS r f)
def PSsD (X : Cx) (md : List Md) (st : List Stmt) (f : Env → R Fl) : Prop := ∀ r : Rn, r.K = X.K → r.md = md → PSs X st (tS r f)

theorem RetOk.nil {r : Rn} {S : Nat → List Addr} : RetOk r S [] := ⟨List.nodup_nil, fun _ h => (nomatch h), fun _ _ _ h => (nomatch h)⟩
theorem Fr.ret {r : Rn} {H H' : Hp} {σ : L2.St} {ρ : Env} {S : Nat → List Addr} {U : List Nat} {T : List Addr} (h : Rel r H σ ρ S) (f : Fr U S H T) (hU : ∀ j ∈ U, r.md[j]? = some Md.loc) : RetOk r S T :=
  ⟨f.nd, fun a ha => by
    rcases f.fr a ha with z | ⟨j, hj, z⟩
    · exact h.new z
    · exact h.own j (.inl (hU j hj)) a z, fun i hi a ha hb => by
    rcases f.fr a ha with z | ⟨j, hj, z⟩
    · obtain ⟨o, q⟩ := h.there i a hb
      rw [z] at q; cases q
    · have hij : j ≠ i := by
        rintro rfl
        rw [hU j hj] at hi; cases hi
      exact h.sep j i a hij z hb (h.own j (.inl (hU j hj)) a z)⟩

/-! ### plain functions of statements -/
def seqS (f g : Env → R Fl) : Env → R Fl := fun ρ => f ρ >>= fun o => match o with
  | .nx ρ' => g ρ'
  | o => .ok o
def nextS : Env → R Fl := fun ρ => .ok (.nx ρ)
def setS (i : Nat) (f : Env → R M) : Env → R Fl := fun ρ => f ρ >>= fun m => .ok (.nx (ρ.set i (some m)))
def dropS (f : Env → R M) : Env → R Fl := fun ρ => f ρ >>= fun _ => .ok (.nx ρ)
def retS (f : Env → R M) : Env → R Fl := fun ρ => f ρ >>= fun m => .ok (.rt m ρ)
def ifS (c : Env → R Bool) (f g : Env → R Fl) : Env → R Fl := fun ρ => c ρ >>= fun b => if b then f ρ else g ρ
def augS (i : Nat) (g : M → M → R M) (f : Env → R M) : Env → R Fl := fun ρ => getV ρ i >>= fun x => f ρ >>= fun y => g x y >>= fun z => .ok (.nx (ρ.set i (some z)))
section
variable {X : Cx} {md : List Md} {pos : Pos}

theorem pssd_nil : PSsD X md [] nextS := fun r hK hmd => pss_nil.imp fun D σ H h => by
  obtain ⟨ρ, S, h1, h2⟩ := h
  exact h2 σ H S h1
theorem endS_seq {r : Rn} {D : Ends} {f g : Env → R Fl} {ρ : Env} (h : endS r D (seqS f g ρ)) : endS r { D with nx := tS r g D } (f ρ) := by
  unfold seqS at h
  cases e : f ρ with
  | ok o =>
    rw [e] at h
    cases o with
    | nx ρ' => exact fun σ H S q => ⟨ρ', S, q, h⟩
    | rt m ρ' => exact h
    | bk ρ' => exact h
    | ct ρ' => exact h
  | exc c l => rw [e] at h; exact h
  | no => rw [e] at h; exact h
theorem pssd_cons {st : Stmt} {rest : List Stmt} {f g : Env → R Fl} (h1 : PSD X md st f) (h2 : PSsD X md rest g) : PSsD X md (st :: rest) (seqS f g) := fun r hK hmd => (pss_cons (h1 r hK hmd) (h2 r hK hmd)).imp fun D σ H h => by
  obtain ⟨ρ, S, h1, h2⟩ := h
  exact ⟨ρ, S, h1, endS_seq h2⟩
theorem pssd_one {st : Stmt} {f : Env → R Fl} (h1 : PSD X md st f) : PSsD X md [st] f := fun r hK hmd => pss_one (h1 r hK hmd)
theorem psd_pass : PSD X md (.Pass pos) nextS := fun r hK hmd => ps_pass.imp fun D σ H h => by
  obtain ⟨ρ, S, h1, h2⟩ := h
  exact h2 σ H S h1
theorem psd_break : PSD X md (.Break pos) (fun ρ => .ok (.bk ρ)) := fun r hK hmd => ps_break.imp fun D σ H h => by
  obtain ⟨ρ, S, h1, h2⟩ := h
  exact h2 σ H S h1
theorem psd_continue : PSD X md (.Continue pos) (fun ρ => .ok (.ct ρ)) := fun r hK hmd => ps_continue.imp fun D σ H h => by
  obtain ⟨ρ, S, h1, h2⟩ := h
  exact h2 σ H S h1
theorem psd_set {i : Nat} {x : Str} {e : Expr} {f : Env → R M} {pos' : Pos} (hN : X.N.Nodup) (hi : X.N[i]? = some x) (hx : Loc X.env.scope x) (hm : md[i]? = some Md.loc ∨ md[i]? = some Md.any) (he : PE X e (tD X.K [] f)) (hs : swapsWith e (some (.Name x pos')) pos.line X.env = pure false := by rfl) (hf : X.fn x = true ∨ X.env.scope.names.lookup x = some .local := by first | exact .inl rfl | exact .inr rfl | assumption) :
    PSD X md (.Assign [.Name x pos'] e pos) (setS i f) := fun r hK hmd => (ps_set hN hi hx (show PE X e (tD r.K [] f) from hK ▸ he) hs hf).imp fun D σ H h => by
  obtain ⟨ρ, S, h1, h2⟩ := h
  unfold setS at h2
  cases q : f ρ with
  | ok m =>
    rw [q] at h2
    exact ⟨ρ, S, m, h1.sl, q, fun v H2 T e is fr => h2 _ _ _ (h1.set e (by rw [hmd]; exact hm) is fr.new)⟩
  | exc c l => rw [q] at h2; exact h2.elim
  | no => rw [q] at h2; exact h2.elim
theorem psd_drop {e : Expr} {U : List Nat} {f : Env → R M} (he : PE X e (tD X.K U f)) (hs : swapsWith e none pos.line X.env = pure false := by rfl) : PSD X md (.Expr e pos) (dropS f) := fun r hK hmd => (ps_expr (show PE X e (tD r.K U f) from hK ▸ he) hs).imp fun D σ H h => by
  obtain ⟨ρ, S, h1, h2⟩ := h
  unfold dropS at h2
  cases q : f ρ with
  | ok m =>
    rw [q] at h2
    exact ⟨ρ, S, m, h1.sl, q, fun v H2 T e is fr => h2 _ _ _ (h1.ex e)⟩
  | exc c l => rw [q] at h2; exact h2.elim
  | no => rw [q] at h2; exact h2.elim
theorem psd_ret {e : Expr} {U : List Nat} {f : Env → R M} (hU : ∀ j ∈ U, md[j]? = some Md.loc) (he : PE X e (tD X.K U f)) : PSD X md (.Return (some e) pos) (retS f) := fun r hK hmd => (ps_ret (show PE X e (tD r.K U f) from hK ▸ he)).imp fun D σ H h => by
  obtain ⟨ρ, S, h1, h2⟩ := h
  unfold retS at h2
  cases q : f ρ with
  | ok m =>
    rw [q] at h2
    exact ⟨ρ, S, m, h1.sl, q, fun v H2 T e is fr => h2 v σ H2 S T (h1.ex e) is (Fr.ret (H' := H) h1 fr (by rw [hmd]; exact hU))⟩
  | exc c l => rw [q] at h2; exact h2.elim
  | no => rw [q] at h2; exact h2.elim
theorem psd_retN : PSD X md (.Return none pos) (fun ρ => .ok (.rt mN ρ)) := fun r hK hmd => ps_retN.imp fun D σ H h => by
  obtain ⟨ρ, S, h1, h2⟩ := h
  exact h2 .non σ H S [] h1 (.im .non) RetOk.nil
theorem psd_if {c : Expr} {a b : List Stmt} {gc : Env → R Bool} {f g : Env → R Fl} (hc : PT X c (tDT X.K gc)) (ha : PSsD X md a f) (hb : PSsD X md b g) : PSD X md (.If c a b pos) (ifS gc f g) := fun r hK hmd => (ps_if (show PT X c (tDT r.K gc) from hK ▸ hc) (ha r hK hmd) (hb r hK hmd)).imp fun D σ H h => by
  obtain ⟨ρ, S, h1, h2⟩ := h
  unfold ifS at h2
  cases q : gc ρ with
  | ok k =>
    rw [q] at h2
    refine ⟨ρ, S, k, h1.sl, q, fun H2 e => ?_⟩
    cases k with
    | true => exact ⟨ρ, S, h1.ex e, h2⟩
    | false => exact ⟨ρ, S, h1.ex e, h2⟩
  | exc c l => rw [q] at h2; exact h2.elim
  | no => rw [q] at h2; exact h2.elim
theorem psd_aug {i : Nat} {x : Str} {e : Expr} {U : List Nat} {f : Env → R M} {op : Operator} {g : M → M → R M} {pos' : Pos} (hN : X.N.Nodup) (hi : X.N[i]? = some x) (hx : Loc X.env.scope x) (hm : md[i]? = some Md.loc ∨ md[i]? = some Md.any) (he : PE X e (tD X.K U f)) (ho : PIp X op (rD X.K g)) (hf : X.fn x = true ∨ X.env.scope.names.lookup x = some .local := by first | exact .inl rfl | exact .inr rfl | assumption) :
    PSD X md (.AugAssign (.Name x pos') op e pos) (augS i g f) := fun r hK hmd => (ps_aug hN hi hx (show PE X e (tD r.K U f) from hK ▸ he) (show PIp X op (rD r.K g) from hK ▸ ho) hf).imp fun D σ H h => by
  obtain ⟨ρ, S, h1, h2⟩ := h
  unfold augS at h2
  cases q : getV ρ i with
  | ok m =>
    rw [q] at h2
    cases q1 : f ρ with
    | ok n =>
      simp only [R.ok_bind, q1] at h2
      cases q2 : g m n with
      | ok z =>
        rw [q2] at h2
        unfold getV at q
        split at q
        · rename_i m' e
          cases q
          obtain ⟨v, e1, e2⟩ := h1.sl.at_ i m e
          exact ⟨v, e1, ρ, S, n, h1.sl, q1, fun w H2 T ex is fr => ⟨m, n, S i, T, z, e2.ex ex, is, q2, fun v3 H3 T3 ex3 is3 nw => h2 _ _ _ (h1.set (ex.trans ex3) (by rw [hmd]; exact hm) is3 (nw.back ex))⟩⟩
        · cases q
      | exc c l => rw [q2] at h2; exact h2.elim
      | no => rw [q2] at h2; exact h2.elim
    | exc c l => simp only [R.ok_bind, q1, R.exc_bind] at h2; exact h2.elim
    | no => simp only [R.ok_bind, q1, R.no_bind] at h2; exact h2.elim
  | exc c l => rw [q] at h2; exact h2.elim
  | no => rw [q] at h2; exact h2.elim
end

/-! ### targets -/
/-- a footprint handed to a target: all own and apart from the slots, or nothing of it own -/
def Hand (r : Rn) (own : Bool) (S : Nat → List Addr) (T : List Addr) : Prop := T.Nodup ∧ ∀ a ∈ T, if own = true then r.Own a ∧ ∀ j, a ∉ S j else ¬ r.Own a
def tG (r : Rn) (own : Bool) (g : M → Env → R Env) : TG := fun v σ H Q => ∃ ρ S m T ρ', Rel r H σ ρ S ∧ IsM r.K H v m T ∧ Hand r own S T ∧ g m ρ = .ok ρ' ∧
  ∀ σ' S', Rel r H σ' ρ' S' → (∀ j a, a ∈ S' j → a ∈ S j ∨ a ∈ T) → Q σ' H
def tGs (r : Rn) (own : Bool) (g : List M → Env → R Env) : TGs := fun vs σ H Q => ∃ ρ S ms T ρ', Rel r H σ ρ S ∧ IsMs r.K H vs ms T ∧ Hand r own S T ∧ g ms ρ = .ok ρ' ∧
  ∀ σ' S', Rel r H σ' ρ' S' → (∀ j a, a ∈ S' j → a ∈ S j ∨ a ∈ T) → Q σ' H
def PGD (X : Cx) (md : List Md) (own : Bool) (tg : Expr) (g : M → Env → R Env) : Prop := ∀ r : Rn, r.K = X.K → r.md = md → PG X tg (tG r own g)
def PGsD (X : Cx) (md : List Md) (own : Bool) (tg : List Expr) (g : List M → Env → R Env) : Prop := ∀ r : Rn, r.K = X.K → r.md = md → PGs X tg (tGs r own g)
def gSet (i : Nat) : M → Env → R Env := fun m ρ => .ok (ρ.set i (some m))
def gSetI (i : Nat) : M → Env → R Env := fun m ρ => asIm m >>= fun m => .ok (ρ.set i (some m))
def gNilM : List M → Env → R Env := fun ms ρ => match ms with
  | [] => .ok ρ
  | _ => .no
def gConsM (g : M → Env → R Env) (h : List M → Env → R Env) : List M → Env → R Env := fun ms ρ => match ms with
  | m :: ms => g m ρ >>= fun ρ => h ms ρ
  | _ => .no
/-- the items of a tuple of n -/
def unT (n : Nat) : M → R (List M)
  | .im (.tup l) => if l.length = n then .ok (l.map .im) else .no
  | .tpm l => if l.length = n then .ok l else .no
  | _ => .no
def gTupM (n : Nat) (h : List M → Env → R Env) : M → Env → R Env := fun m ρ => unT n m >>= fun ms => h ms ρ
theorem updS_sub {S : Nat → List Addr} {i j : Nat} {T : List Addr} {a : Addr} (h : a ∈ updS S i T j) : a ∈ S j ∨ a ∈ T := by
  by_cases e : j = i
  · subst e; rw [updS_same] at h; exact .inr h
  · rw [updS_ne e] at h; exact .inl h
section
variable {X : Cx} {md : List Md} {own : Bool} {pos : Pos}
theorem pgd_own {i : Nat} {x : Str} (hN : X.N.Nodup) (hi : X.N[i]? = some x) (hx : Loc X.env.scope x) (hm : md[i]? = some Md.loc ∨ md[i]? = some Md.any) (hf : X.fn x = true ∨ X.env.scope.names.lookup x = some .local := by first | exact .inl rfl | exact .inr rfl | assumption) :
    PGD X md true (.Name x pos) (gSet i) := fun r hK hmd => (pg_name hN hi hx hf).imp fun v σ H Q h => by
  obtain ⟨ρ, S, m, T, ρ', h1, h2, h3, h4, k⟩ := h
  cases h4
  refine k _ _ (h1.put (by rw [hmd]; exact hm) h2 h3.1 (fun _ a ha => ?_) (fun a ha _ j _ => ?_)) fun j a ha => updS_sub ha
  · exact (show r.Own a ∧ _ from h3.2 a ha).1
  · exact (show r.Own a ∧ _ from h3.2 a ha).2 j
theorem pgd_im {i : Nat} {x : Str} (hN : X.N.Nodup) (hi : X.N[i]? = some x) (hx : Loc X.env.scope x) (hm : md[i]? = some Md.loc ∨ md[i]? = some Md.any) (hf : X.fn x = true ∨ X.env.scope.names.lookup x = some .local := by first | exact .inl rfl | exact .inr rfl | assumption) :
    PGD X md own (.Name x pos) (gSetI i) := fun r hK hmd => (pg_name hN hi hx hf).imp fun v σ H Q h => by
  obtain ⟨ρ, S, m, T, ρ', h1, h2, h3, h4, k⟩ := h
  cases m with
  | im m =>
    cases h4
    obtain ⟨rfl, h5⟩ := h2.im_nil
    exact k _ _ (h1.put (by rw [hmd]; exact hm) (.im h5) List.nodup_nil (fun _ a ha => (nomatch ha)) (fun a ha => (nomatch ha))) fun j a ha => updS_sub ha
  | _ => cases h4
theorem pgd_any {i : Nat} {x : Str} (hN : X.N.Nodup) (hi : X.N[i]? = some x) (hx : Loc X.env.scope x) (hm : md[i]? = some Md.any) (hf : X.fn x = true ∨ X.env.scope.names.lookup x = some .local := by first | exact .inl rfl | exact .inr rfl | assumption) :
    PGD X md false (.Name x pos) (gSet i) := fun r hK hmd => (pg_name hN hi hx hf).imp fun v σ H Q h => by
  obtain ⟨ρ, S, m, T, ρ', h1, h2, h3, h4, k⟩ := h
  cases h4
  refine k _ _ (h1.put (by rw [hmd]; exact .inr hm) h2 h3.1 (fun z => ?_) (fun a ha o => ?_)) fun j a ha => updS_sub ha
  · rw [hmd, hm] at z; cases z
  · exact absurd o (show ¬ r.Own a from h3.2 a ha)
theorem pgsd_nil : PGsD X md own [] gNilM := fun r hK hmd => ⟨fun pins s σ H vs us Q I rr h => by
  obtain ⟨ρ, S, ms, T, ρ', h1, h2, h3, h4, k⟩ := h
  cases h2
  · cases h4
    exact pgs_nil.run pins s σ H [] us Q I rr ⟨rfl, k σ S h1 fun j a ha => .inl ha⟩
  · cases h4⟩
theorem pgsd_cons {e : Expr} {es : List Expr} {g : M → Env → R Env} {h : List M → Env → R Env} (h1 : PGD X md own e g) (h2 : PGsD X md own es h) (hs : (assignEach (e :: es) X.env).map (·.2) = assign e X.env :: (assignEach es X.env).map (·.2) := by rfl) : PGsD X md own (e :: es) (gConsM g h) :=
  fun r hK hmd => ⟨fun pins s σ H vs us Q I rr q => by
    refine (pgs_cons (h1 r hK hmd) (h2 r hK hmd) hs).run pins s σ H vs us Q I rr ?_
    obtain ⟨ρ, S, ms, T, ρ', g1, g2, g3, g4, k⟩ := q
    cases g2 with
    | nil => cases g4
    | cons is iss =>
      rename_i v m T1 T2 vs ms
      obtain ⟨ρ1, e1, e2⟩ := R.bind_ok (show (g m ρ >>= fun ρ => h ms ρ) = .ok ρ' from g4)
      have nd := List.nodup_append.mp g3.1
      refine ⟨v, vs, rfl, ρ, S, m, T1, ρ1, g1, is, ⟨nd.1, fun a ha => g3.2 a (List.mem_append_left _ ha)⟩, e1, fun σ' S' q1 q2 => ?_⟩
      refine ⟨ρ1, S', ms, T2, ρ', q1, iss, ⟨nd.2.1, fun a ha => ?_⟩, e2, fun σ2 S2 q3 q4 => k σ2 S2 q3 fun j a ha => ?_⟩
      · have := g3.2 a (List.mem_append_right _ ha)
        cases own with
        | true =>
          obtain ⟨o, d⟩ := (show r.Own a ∧ ∀ j, a ∉ S j from this)
          refine ⟨o, fun j hj => ?_⟩
          rcases q2 j a hj with z | z
          · exact d j z
          · exact nd.2.2 a z a ha rfl
        | false => exact this
      · rcases q4 j a ha with z | z
        · rcases q2 j a z with y | y
          · exact .inl y
          · exact .inr (List.mem_append_left _ y)
        · exact .inr (List.mem_append_right _ z)⟩
theorem pgd_tup {es : List Expr} {k : Nat} {h : List M → Env → R Env} {n : Nat} (hc : X.calm = true) (hh : PGsD X md own es h)
    (hn : (assignEach es X.env).length = n := by rfl) (hst : (assignEach es X.env).findIdx? (·.1) = none := by rfl) : PGD X md own (.Tuple es k pos) (gTupM n h) := fun r hK hmd => (pg_tup hc (hh r hK hmd) hn hst).imp fun v σ H Q q => by
  obtain ⟨ρ, S, m, T, ρ', h1, h2, h3, h4, kk⟩ := q
  obtain ⟨ms, e1, e2⟩ := R.bind_ok (show (unT n m >>= fun ms => h ms ρ) = .ok ρ' from h4)
  cases h2 with
  | im is =>
    cases is with
    | tup hs r2 =>
      rename_i a vs l
      have e1 : (if l.length = n then R.ok (l.map M.im) else R.no) = .ok ms := e1
      split at e1
      · rename_i hl
        cases e1
        exact ⟨a, vs, rfl, hK ▸ hs, by rw [r2.length]; exact hl, ρ, S, _, [], ρ', h1, IsMs.ims r2, h3, e2, kk⟩
      · cases e1
    | _ => cases e1
  | tpm hs r2 =>
    rename_i a vs l
    have e1 : (if l.length = n then R.ok l else R.no) = .ok ms := e1
    split at e1
    · rename_i hl
      cases e1
      exact ⟨a, vs, rfl, hK ▸ hs, by rw [r2.length]; exact hl, ρ, S, _, T, ρ', h1, r2, h3, e2, kk⟩
    · cases e1
  | _ => cases e1
/-- target = value -/
def asgS (g : M → Env → R Env) (f : Env → R M) : Env → R Fl := fun ρ => f ρ >>= fun m => g m ρ >>= fun ρ' => .ok (.nx ρ')
theorem psd_asg {tg e : Expr} {g : M → Env → R Env} {f : Env → R M} (he : PE X e (tD X.K [] f)) (hg : PGD X md true tg g) (hs : swapsWithSole [tg] e pos.line X.env = pure false := by rfl) (hw : swappedStores [tg] e X.env = pure none := by rfl)
    (h1 : (assignEach [tg] X.env).map (·.2) = [assign tg X.env] := by rfl) : PSD X md (.Assign [tg] e pos) (asgS g f) := fun r hK hmd => (ps_asg (show PE X e (tD r.K [] f) from hK ▸ he) (hg r hK hmd) hs hw h1).imp fun D σ H h => by
  obtain ⟨ρ, S, h1, h2⟩ := h
  unfold asgS at h2
  cases q : f ρ with
  | ok m =>
    simp only [q, R.ok_bind] at h2
    refine ⟨ρ, S, m, h1.sl, q, fun v H2 T e is fr => ?_⟩
    cases q1 : g m ρ with
    | ok ρ' =>
      rw [q1] at h2
      exact ⟨ρ, S, m, T, ρ', h1.ex e, is, ⟨fr.nd, fun a ha => ⟨h1.new (fr.new.free a ha), fun j hj => by
        obtain ⟨o, z⟩ := h1.there j a hj
        rw [fr.new.free a ha] at z
        cases z⟩⟩, q1, fun σ' S' q2 _ => h2 _ _ _ q2⟩
    | exc c l => rw [q1] at h2; exact h2.elim
    | no => rw [q1] at h2; exact h2.elim
  | exc c l => rw [q] at h2; exact h2.elim
  | no => rw [q] at h2; exact h2.elim
end

/-! ### what is walked -/
structure Sq (K : PySem.W.Frag) (J : It) (H1 : Hp) (fp : List Addr) (ms : List M) : Prop where
  wk : ∃ (G : Hp → Prop) (Y : Nat → Hp → V → Hp → Prop), Walk J ms.length G Y ∧ (∀ H', (∀ a ∈ fp, ∀ o, H1 a = some o → H' a = some o) → TK H1 H' → G H') ∧
    ∀ i H x H', i < ms.length → (∀ a ∈ fp, ∀ o, H1 a = some o → H a = some o) → TK H1 H → Y i H x H' → Ex H H' ∧ ∃ m T, ms[i]? = some m ∧ IsM K H' x m T ∧ T.Nodup ∧ ∀ a ∈ T, a ∈ fp
def tI (K : PySem.W.Frag) (U : List Nat) (f : Env → R (List M)) : TI := fun σ H R => ∃ ρ S ms, Slots K H σ ρ S ∧ f ρ = .ok ms ∧
  ∀ J H1 fp, Ex H H1 → Sq K J H1 fp ms → (∀ a ∈ fp, (∃ o, H1 a = some o) ∧ (H a = none ∨ ∃ j ∈ U, a ∈ S j)) → R J H1
/-- the items of a list, a tuple, a text -/
def itemsM : M → R (List M)
  | .lst l => .ok l
  | .im (.tup l) => .ok (l.map .im)
  | .tpm l => .ok l
  | .im (.str z) => .ok (z.cps.toList.map fun c => mS ⟨#[c]⟩)
  | _ => .no
theorem IsMs.get' {K : PySem.W.Frag} {H : Hp} {vs : List V} {l : List M} {S : List Addr} {i : Nat} {v : V} (h : IsMs K H vs l S) (nd : S.Nodup) (e : vs[i]? = some v) : ∃ m T, l[i]? = some m ∧ IsM K H v m T ∧ T.Nodup ∧ ∀ a ∈ T, a ∈ S := by
  have hl : i < l.length := by
    rw [← h.length]
    exact (List.getElem?_eq_some_iff.mp e).1
  obtain ⟨w, T, h1, h2, h3⟩ := h.get (List.getElem?_eq_getElem hl)
  rw [e] at h1
  cases h1
  exact ⟨_, T, List.getElem?_eq_getElem hl, h2, h3.nodup nd, fun a ha => h3.subset ha⟩
def iSeq (K : PySem.W.Frag) (tl : TE) : TI := fun σ H R => tl σ H fun x H1 => (∃ a, x = .ref a ∧ (∃ xs, SqL K H1 a xs) ∧ R (Itl K a) H1) ∨ (∃ a, x = .ref a ∧ (∃ xs, SqT K H1 a xs) ∧ R (Itt K a) H1) ∨ (∃ z, x = .str z ∧ R (Its z) H1)
section
variable {X : Cx} {tg : Expr}
theorem pi_seq {l : Expr} {tl : TE} (hl : PE X l tl) : PI X tg l (iSeq X.K tl) := by
  refine ⟨fun pins s σ H R I h => ?_⟩
  refine thn (hl.run pins s σ H _ I h) fun v s1 ⟨x, H1, I1, r1, q1⟩ => ?_
  rcases q1 with ⟨a, e, ⟨xs, hq⟩, q⟩ | ⟨a, e, ⟨xs, hq⟩, q⟩ | ⟨z, e, q⟩
  · subst e
    cases r1
    obtain ⟨its, rv, p, hz⟩ := I1.list hq
    refine wpAny_pyIter_list p.isList ?_
    refine ⟨s1.heap.objs.size, [s1.heap.objs.size], _, _, H1, rfl, I1.kept (t' := s1.toks) fun b o e => Heap.get?_push_of_some _ e, turn_list a _, ⟨_, Heap.get?_push_size _ rfl, rfl, rfl⟩, fun b hb => ?_, q⟩
    have e : b = s1.heap.objs.size := by simpa using hb
    subst e
    exact I1.fpOk (Nat.le_refl _) (I1.hok.fresh (Nat.le_refl _))
  · subst e
    cases r1
    obtain ⟨its, rv, p, hz⟩ := I1.tuple hq
    refine wpAny_pyIter_tuple (show s1.heap.IsTuple a its.toArray from p) ?_
    refine ⟨s1.heap.objs.size, [s1.heap.objs.size], _, _, H1, rfl, I1.kept (t' := s1.toks) fun b o e => Heap.get?_push_of_some _ e, turn_tuple a _, ⟨_, Heap.get?_push_size _ rfl, rfl, rfl⟩, fun b hb => ?_, q⟩
    have e : b = s1.heap.objs.size := by simpa using hb
    subst e
    exact I1.fpOk (Nat.le_refl _) (I1.hok.fresh (Nat.le_refl _))
  · subst e
    obtain ⟨t, rfl⟩ := r1
    cases ha : z.cps.all (· < 128)
    · exact wpAny_pyIter_wide ha (pi_one (tk := s1.toks) I1 _ (turn_str _ z t "str_iterator" (.inr rfl)) ⟨_, Heap.get?_push_size _ rfl, rfl, rfl⟩ q)
    · exact wpAny_pyIter_ascii ha (pi_one (tk := s1.toks) I1 _ (turn_str _ z t "str_ascii_iterator" (.inl rfl)) ⟨_, Heap.get?_push_size _ rfl, rfl, rfl⟩ q)
theorem pid_seq {l : Expr} {U : List Nat} {f : Env → R M} (hl : PE X l (tD X.K U f)) : PI X tg l (tI X.K U fun ρ => f ρ >>= itemsM) := (pi_seq hl).imp fun σ H Rr h => by
  obtain ⟨ρ, S, ms, sl, hm, k⟩ := h
  obtain ⟨x, h1, h2⟩ := R.bind_ok hm
  refine ⟨ρ, S, x, sl, h1, fun v H2 T e is fr => ?_⟩
  have fpOk : ∀ a ∈ T, (∃ o, H2 a = some o) ∧ (H a = none ∨ ∃ j ∈ U, a ∈ S j) := fun a ha => ⟨is.there a ha, fr.fr a ha⟩
  have tupCase : ∀ (a : Addr) (vs : List V) (l : List M), SqT X.K H2 a vs → IsMs X.K H2 vs l T → ms = l → Rr (Itt X.K a) H2 := fun a vs l hq r e1 => by
    subst e1
    refine k _ H2 T e ⟨_, _, (r.length ▸ walk_tup : Walk (Itt X.K a) _ (fun H => SqT X.K H a vs) (YAt vs)), fun H' _ t => t.sqT hq, fun i H3 y H' _ kp t hy => ?_⟩ fpOk
    obtain ⟨rfl, hy⟩ := hy
    exact ⟨Ex.refl _, (r.keep t kp).get' fr.nd hy⟩
  cases is with
  | im is =>
    cases is with
    | tup hs r =>
      cases h2
      exact .inr (.inl ⟨_, rfl, ⟨_, hs⟩, tupCase _ _ _ hs (IsMs.ims r) rfl⟩)
    | str =>
      rename_i z
      cases h2
      refine .inr (.inr ⟨z, rfl, k _ H2 [] e ⟨fun _ => True, _, (by rw [List.length_map, Array.length_toList]; exact walk_str), fun _ _ _ => trivial, fun i H3 y H' _ kp t hy => ?_⟩ fun _ z => (nomatch z)⟩)
      obtain ⟨rfl, c, h3, rfl⟩ := hy
      refine ⟨Ex.refl _, mS ⟨#[c]⟩, [], ?_, .im .str, List.nodup_nil, fun _ z => (nomatch z)⟩
      rw [List.getElem?_map, Array.getElem?_toList, h3]
      rfl
    | _ => cases h2
  | lst hs r =>
    rename_i a vs l S'
    cases h2
    refine .inl ⟨_, rfl, ⟨_, .of hs⟩, k _ H2 (a :: S') e ⟨_, _, (r.length ▸ walk_list : Walk (Itl X.K a) _ (fun H => SqL X.K H a vs) (YAt vs)), fun H' kp _ => .of (kp a List.mem_cons_self _ hs), fun i H3 y H' _ kp t hy => ?_⟩ fpOk⟩
    obtain ⟨rfl, hy⟩ := hy
    obtain ⟨m, T, h3, h4, h5, h6⟩ := (r.keep t fun b hb => kp b (List.mem_cons_of_mem _ hb)).get' (List.nodup_cons.mp fr.nd).2 hy
    exact ⟨Ex.refl _, m, T, h3, h4, h5, fun b hb => List.mem_cons_of_mem _ (h6 b hb)⟩
  | tpm hs r =>
    cases h2
    exact .inr (.inl ⟨_, rfl, ⟨_, hs⟩, tupCase _ _ _ hs r rfl⟩)
  | _ => cases h2
end
end DL
/-! DL4: for, while, comprehensions; ranges, enumerate, zip, dicts walked. -/
namespace DL
open PySem PySem.Spec PyProof.Rows L2

theorem RetOk.thaw {r : Rn} {H : Hp} {σ : L2.St} {ρ : Env} {S : Nat → List Addr} (h : Rel r H σ ρ S) {md' : List Md} {W : List Nat} (c : Cmp r.md md') (hW : ∀ (i : Nat), md'[i]? = some Md.any → W.contains i = true) {H' : Hp} {σ' : L2.St} {ρ' : Env} {S' : Nat → List Addr} {T : List Addr} (h' : Rel (r.fz md' H σ ρ S) H' σ' ρ' S')
    (k : RetOk (r.fz md' H σ ρ S) S' T) : RetOk r (wipeS W S') T := by
  refine ⟨k.nd, fun a ha => fz_up h c (k.own a ha), fun i hi a ha hb => ?_⟩
  obtain ⟨hc, hb⟩ := mem_wipeS hb
  have hl : i < md'.length := by
    rw [c.len]
    exact (List.getElem?_eq_some_iff.mp hi).1
  have e : md'[i]? = some md'[i] := List.getElem?_eq_getElem hl
  cases q : md'[i] with
  | io => exact k.io i (by rw [show (r.fz md' H σ ρ S).md = md' from rfl, e, q]) a ha hb
  | loc =>
    rw [q] at e
    rcases c.at_ i _ e with z | z | z
    · cases z
    · rw [hi] at z; cases z
    · cases z.1
  | any =>
    rw [q] at e
    rw [hW i e] at hc
    cases hc
  | ro =>
    rw [q] at e
    have hs : S' i = S i := (h'.ro i e).2.2
    rw [hs] at hb
    rcases k.own a ha with z | z
    · obtain ⟨o, q⟩ := h.there i a hb
      have z : H a = none := z
      rw [z] at q; cases q
    · obtain ⟨j, h2, h3⟩ := mem_fzB.mp z
      refine h.sep i j a ?_ hb h3 (h.own j (c.own h2) a h3)
      rintro rfl
      rw [e] at h2
      rcases h2 with z | z <;> cases z

/-! ### expressions that change what slots stand for -/
def tX (r : Rn) (f : Env → R (M × Env)) : TE := fun σ H Q => ∃ ρ S m ρ', Rel r H σ ρ S ∧ f ρ = .ok (m, ρ') ∧
  ∀ v H2 S2 T, Rel r H2 σ ρ' S2 → TK H H2 → IsM r.K H2 v m T → T.Nodup → (∀ a ∈ T, r.Own a ∧ ∀ j, a ∉ S2 j) → Q v H2
/-- .. to a value that never changes -/
def tXI (r : Rn) (f : Env → R (I × Env)) : TE := fun σ H Q => ∃ ρ S m ρ', Rel r H σ ρ S ∧ f ρ = .ok (m, ρ') ∧ ∀ v H2 S2, Rel r H2 σ ρ' S2 → TK H H2 → IsI r.K H2 v m → Q v H2
def tXT (r : Rn) (f : Env → R (Bool × Env)) : TT := fun σ H Q => ∃ ρ S m ρ', Rel r H σ ρ S ∧ f ρ = .ok (m, ρ') ∧ ∀ H2 S2, Rel r H2 σ ρ' S2 → TK H H2 → Q m H2
def tXA (r : Rn) (f : Env → R (List I × Env)) : TA := fun σ H Q => ∃ ρ S m ρ', Rel r H σ ρ S ∧ f ρ = .ok (m, ρ') ∧ ∀ vs H2 S2, Rel r H2 σ ρ' S2 → TK H H2 → IsIs r.K H2 vs m → Q vs H2
def tIX (r : Rn) (U : List Nat) (f : Env → R (List M × Env)) : TI := fun σ H Rr => ∃ ρ S ms ρ', Rel r H σ ρ S ∧ f ρ = .ok (ms, ρ') ∧
  ∀ J H1 S1 fp, Rel r H1 σ ρ' S1 → TK H H1 → Sq r.K J H1 fp ms → (∀ a ∈ fp, (∃ o, H1 a = some o) ∧ ∀ (j : Nat), a ∈ S1 j → r.Own a → j ∈ U) → Rr J H1
def PXD (X : Cx) (md : List Md) (e : Expr) (f : Env → R (M × Env)) : Prop := ∀ r : Rn, r.K = X.K → r.md = md → PE X e (tX r f)
def PXI (X : Cx) (md : List Md) (e : Expr) (f : Env → R (I × Env)) : Prop := ∀ r : Rn, r.K = X.K → r.md = md → PE X e (tXI r f)
def PXT (X : Cx) (md : List Md) (e : Expr) (f : Env → R (Bool × Env)) : Prop := ∀ r : Rn, r.K = X.K → r.md = md → PT X e (tXT r f)
def PXW (X : Cx) (md : List Md) (e : Expr) (f : Env → R (Bool × Env)) : Prop := ∀ r : Rn, r.K = X.K → r.md = md → PW X e (tXT r f)
def PXA (X : Cx) (md : List Md) (e : List Expr) (f : Env → R (List I × Env)) : Prop := ∀ r : Rn, r.K = X.K → r.md = md → PA X e (tXA r f)
def PIX (X : Cx) (md : List Md) (U : List Nat) (tg e : Expr) (f : Env → R (List M × Env)) : Prop := ∀ r : Rn, r.K = X.K → r.md = md → PI X tg e (tIX r U f)
/-- what changes nothing -/
def pureX {α : Type} (f : Env → R α) : Env → R (α × Env) := fun ρ => f ρ >>= fun a => .ok (a, ρ)
theorem pix_pure {X : Cx} {md : List Md} {U : List Nat} {tg e : Expr} {f : Env → R (List M)} (h : PI X tg e (tI X.K U f)) : PIX X md U tg e (pureX f) := fun r hK hmd => (show PI X tg e (tI r.K U f) from hK ▸ h).imp fun σ H Rr q => by
  obtain ⟨ρ, S, ms, ρ', h1, h2, k⟩ := q
  obtain ⟨m, h3, h4⟩ := R.bind_ok (show (f ρ >>= fun a => .ok (a, ρ)) = .ok (ms, ρ') from h2)
  cases h4
  refine ⟨ρ, S, ms, h1.sl, h3, fun J H1 fp e sq hfp => k J H1 S fp (h1.ex e) (Ex.tk e) sq fun a ha => ⟨(hfp a ha).1, fun j hj o => ?_⟩⟩
  rcases (hfp a ha).2 with z | ⟨i, hi, z⟩
  · obtain ⟨o, q⟩ := h1.there j a hj
    rw [z] at q; cases q
  · by_cases hij : i = j
    · exact hij ▸ hi
    · exact absurd o (h1.sep i j a hij z hj)

def forR (g : M → Env → R Env) (fb : Env → R Fl) : List M → Env → R Fl
  | [], ρ => .ok (.nx ρ)
  | m :: ms, ρ => g m ρ >>= fun ρ1 => fb ρ1 >>= fun o => match o with
    | .nx ρ2 => forR g fb ms ρ2
    | .ct ρ2 => forR g fb ms ρ2
    | .bk ρ2 => .ok (.nx ρ2)
    | .rt v ρ2 => .ok (.rt v ρ2)
def wipeO (W : List Nat) : Fl → Fl
  | .nx ρ => .nx (wipeE W ρ)
  | .ct ρ => .ct (wipeE W ρ)
  | .bk ρ => .bk (wipeE W ρ)
  | .rt v ρ => .rt v (wipeE W ρ)
def forS (W : List Nat) (f : Env → R (List M × Env)) (g : M → Env → R Env) (fb : Env → R Fl) : Env → R Fl := fun ρ => f ρ >>= fun x => forR g fb x.1 x.2 >>= fun o => .ok (wipeO W o)
section
variable {X : Cx} {md : List Md} {pos : Pos}
def aS (K : PySem.W.Frag) (md : List Md) (f : Env → R Fl) : TS := fun D σ H => ∃ r : Rn, r.K = K ∧ r.md = md ∧ tS r f D σ H
def aG (K : PySem.W.Frag) (md : List Md) (own : Bool) (g : M → Env → R Env) : TG := fun v σ H Q => ∃ r : Rn, r.K = K ∧ r.md = md ∧ tG r own g v σ H Q
theorem PSsD.any {st : List Stmt} {f : Env → R Fl} (h : PSsD X md st f) : PSs X st (aS X.K md f) := ⟨fun pins s σ H D I q => by
  obtain ⟨r, h1, h2, q⟩ := q
  exact (h r h1 h2).run pins s σ H D I q⟩
theorem PGD.any {own : Bool} {tg : Expr} {g : M → Env → R Env} (h : PGD X md own tg g) : PG X tg (aG X.K md own g) := ⟨fun pins s σ H v u Q I rr q => by
  obtain ⟨r, h1, h2, q⟩ := q
  exact (h r h1 h2).run pins s σ H v u Q I rr q⟩
theorem psd_for (md' : List Md) (W : List Nat) {tg it : Expr} {body : List Stmt} {U : List Nat} {f : Env → R (List M × Env)} {g : M → Env → R Env} {fb : Env → R Fl} (hp : PassesOwn (model X.prog X.w) X.A X.env X.xe) (hc : X.calm = true) (c : Cmp md md')
    (hU : ∀ j ∈ U, ¬ (md'[j]? = some Md.loc ∨ md'[j]? = some Md.io)) (hW : ∀ (i : Nat), md'[i]? = some Md.any → W.contains i = true) (hW2 : ∀ (i : Nat), W.contains i = true → md[i]? = some Md.any ∨ md[i]? = some Md.loc)
    (hi : PIX X md U tg it f) (hg : PGD X md' false tg g) (hb : PSsD X md' body fb) (hs : ∀ x, foldedSetIterable it X.env x = pure x := by intro _; rfl) : PSD X md (.For tg it body [] pos) (forS W f g fb) := fun r hK hmd => (ps_for hp hc (hi r hK hmd) hg.any hb.any hs).imp fun D σ H h => by
  obtain ⟨ρ, S, h1, h2⟩ := h
  unfold forS at h2
  cases q : f ρ with
  | exc c l => rw [q] at h2; exact h2.elim
  | no => rw [q] at h2; exact h2.elim
  | ok x =>
    obtain ⟨xs, ρi⟩ := x
    rw [q, R.ok_bind] at h2
    simp only at h2
    cases q1 : forR g fb xs ρi with
    | exc c l => rw [q1] at h2; exact h2.elim
    | no => rw [q1] at h2; exact h2.elim
    | ok out =>
      rw [q1, R.ok_bind] at h2
      refine ⟨ρ, S, xs, ρi, h1, q, fun J H1 S1 fp h3 _ sq hfp => ?_⟩
      obtain ⟨G, Y, wk, hG, hY⟩ := sq.wk
      have c' : Cmp r.md md' := by rw [hmd]; exact c
      have hfpB : ∀ a ∈ fp, a ∉ fzB md' S1 := fun a ha hb => by
        obtain ⟨i, g1, g2⟩ := mem_fzB.mp hb
        exact hU i ((hfp a ha).2 i g2 (h3.own i (c'.own g1) a g2)) g1
      have kp : ∀ H', Fm (fzB md' S1) H1 H' → ∀ a ∈ fp, ∀ o, H1 a = some o → H' a = some o := fun H' f a ha o ho => f.keep a o ho (hfpB a ha)
      refine for_it (D := D) (g := aG X.K md' false g) (tb := aS X.K md' fb) wk (fun i σ' H' => ∃ ρ' S', Rel (r.fz md' H1 σ ρi S1) H' σ' ρ' S' ∧ forR g fb (xs.drop i) ρ' = .ok out) ⟨ρi, S1, h3.fz c', q1⟩ (fun i σ' H' _ p => ?_) (fun i x σ' H' H2 hi' p hy => ?_) (fun σ' H' p => ?_)
      · obtain ⟨ρ', S', p, _⟩ := p
        exact hG H' (kp H' p.fm) p.fm.tk
      · obtain ⟨ρ', S', p, q2⟩ := p
        obtain ⟨e2, m, T, g1, g2, g3, g4⟩ := hY i H' x H2 hi' (kp H' p.fm) p.fm.tk hy
        have g1' : xs[i] = m := by
          rw [List.getElem?_eq_getElem hi'] at g1
          exact Option.some.inj g1
        rw [List.drop_eq_getElem_cons hi', g1'] at q2
        obtain ⟨ρ1, q3, q4⟩ := R.bind_ok (show (g m ρ' >>= fun ρ1 => fb ρ1 >>= fun o => match o with
          | .nx ρ2 => forR g fb (xs.drop (i + 1)) ρ2
          | .ct ρ2 => forR g fb (xs.drop (i + 1)) ρ2
          | .bk ρ2 => .ok (.nx ρ2)
          | .rt v ρ2 => .ok (.rt v ρ2)) = .ok out from q2)
        obtain ⟨o, q5, q6⟩ := R.bind_ok q4
        have p2 := p.ex e2
        refine ⟨r.fz md' H1 σ ρi S1, hK, rfl, ρ', S', m, T, ρ1, p2, g2, ⟨g3, fun a ha => ?_⟩, q3, fun σ2 S2 p3 _ => ⟨r.fz md' H1 σ ρi S1, hK, rfl, ρ1, S2, p3, ?_⟩⟩
        · show ¬ (r.fz md' H1 σ ρi S1).Own a
          intro o
          rcases o with z | z
          · obtain ⟨⟨o, q⟩, _⟩ := hfp a (g4 a ha)
            have z : H1 a = none := z
            rw [z] at q; cases q
          · exact hfpB a (g4 a ha) z
        · rw [q5]
          have th : ∀ {σ3 : L2.St} {H3 : Hp} {ρ3 : Env} {S3 : Nat → List Addr}, Rel (r.fz md' H1 σ ρi S1) H3 σ3 ρ3 S3 → Rel r H3 σ3 (wipeE W ρ3) (wipeS W S3) := fun z =>
            h3.thaw c' hW (by rw [hmd]; exact hW2) z
          cases o with
          | nx ρ3 => exact fun σ3 H3 S3 z => ⟨ρ3, S3, z, q6⟩
          | ct ρ3 => exact fun σ3 H3 S3 z => ⟨ρ3, S3, z, q6⟩
          | bk ρ3 =>
            cases q6
            exact fun σ3 H3 S3 z => h2 σ3 H3 _ (th z)
          | rt m3 ρ3 =>
            cases q6
            exact fun v3 σ3 H3 S3 T3 z is3 ro => h2 v3 σ3 H3 _ T3 (th z) is3 (RetOk.thaw h3 c' hW z ro)
      · obtain ⟨ρ', S', p, q2⟩ := p
        rw [List.drop_length] at q2
        cases q2
        exact h2 σ' H' _ (h3.thaw c' hW (by rw [hmd]; exact hW2) p)

/-! ### while -/
def whileR (c : Env → R Bool) (fb : Env → R Fl) : Nat → Env → R Fl
  | 0, _ => .no
  | n + 1, ρ => c ρ >>= fun b => if b then fb ρ >>= fun o => match o with
    | .nx ρ2 => whileR c fb n ρ2
    | .ct ρ2 => whileR c fb n ρ2
    | .bk ρ2 => .ok (.nx ρ2)
    | .rt v ρ2 => .ok (.rt v ρ2)
    else .ok (.nx ρ)
theorem psd_while (n : Nat) {c : Expr} {body : List Stmt} {gc : Env → R Bool} {fb : Env → R Fl} (hp : PassesOwn (model X.prog X.w) X.A X.env X.xe) (hc : PT X c (tDT X.K gc)) (hb : PSsD X md body fb) : PSD X md (.While c body [] pos) (whileR gc fb n) := fun r hK hmd =>
  (ps_while hp (show PT X c (tDT r.K gc) from hK ▸ hc) (hb r hK hmd)).imp fun D σ H h => by
    obtain ⟨ρ, S, h1, h2⟩ := h
    cases q : whileR gc fb n ρ with
    | exc c l => rw [q] at h2; exact h2.elim
    | no => rw [q] at h2; exact h2.elim
    | ok out =>
      rw [q] at h2
      refine ⟨fun m σ' H' => ∃ ρ' S', Rel r H' σ' ρ' S' ∧ whileR gc fb m ρ' = .ok out, ⟨n, ρ, S, h1, q⟩, fun m σ' H' w => ?_⟩
      obtain ⟨ρ', S', p, q2⟩ := w
      cases m with
      | zero => cases q2
      | succ m =>
        obtain ⟨b, q3, q4⟩ := R.bind_ok (show (gc ρ' >>= fun b => if b then fb ρ' >>= fun o => match o with
          | .nx ρ2 => whileR gc fb m ρ2
          | .ct ρ2 => whileR gc fb m ρ2
          | .bk ρ2 => .ok (.nx ρ2)
          | .rt v ρ2 => .ok (.rt v ρ2)
          else .ok (.nx ρ')) = .ok out from q2)
        refine ⟨ρ', S', b, p.sl, q3, fun H2 e => ?_⟩
        cases b with
        | true =>
          rw [if_pos rfl] at q4 ⊢
          obtain ⟨o, q5, q6⟩ := R.bind_ok q4
          refine ⟨fun σ3 H3 => ∃ ρ' S', Rel r H3 σ3 ρ' S' ∧ whileR gc fb m ρ' = .ok out, fun σ3 H3 z => ⟨m, Nat.lt_succ_self m, z⟩, ρ', S', p.ex e, ?_⟩
          rw [q5]
          cases o with
          | nx ρ3 => exact fun σ3 H3 S3 z => ⟨ρ3, S3, z, q6⟩
          | ct ρ3 => exact fun σ3 H3 S3 z => ⟨ρ3, S3, z, q6⟩
          | bk ρ3 =>
            cases q6
            exact h2
          | rt m3 ρ3 =>
            cases q6
            exact h2
        | false =>
          rw [if_neg Bool.false_ne_true] at q4 ⊢
          cases q4
          exact h2 σ' H2 S' (p.ex e)
end

/-! ### comprehensions whose items change nothing -/
def tGS (K : PySem.W.Frag) (vs : List Nat) (g : M → Env → R Env) : TG := fun v σ H Q => ∃ ρ S m T ρ', Slots K H σ ρ S ∧ IsM K H v m T ∧ T.Nodup ∧ g m ρ = .ok ρ' ∧
  ∀ σ' S', Slots K H σ' ρ' S' → σ'.length = σ.length → (∀ j, j ∉ vs → σ'[j]? = σ[j]?) → Q σ' H
def tGSs (K : PySem.W.Frag) (vs : List Nat) (g : List M → Env → R Env) : TGs := fun xs σ H Q => ∃ ρ S ms T ρ', Slots K H σ ρ S ∧ IsMs K H xs ms T ∧ T.Nodup ∧ g ms ρ = .ok ρ' ∧
  ∀ σ' S', Slots K H σ' ρ' S' → σ'.length = σ.length → (∀ j, j ∉ vs → σ'[j]? = σ[j]?) → Q σ' H
theorem Slots.put {K : PySem.W.Frag} {H : Hp} {σ : L2.St} {ρ : Env} {S : Nat → List Addr} {i : Nat} {v : V} {m : M} {T : List Addr} (h : Slots K H σ ρ S) (hi : i < ρ.length) (hm : IsM K H v m T) (nd : T.Nodup) : Slots K H (σ.set i (some v)) (ρ.set i (some m)) (updS S i T) := by
  refine ⟨by simp [h.len], fun j => ?_, fun j hj => ?_, fun j m' q => ?_⟩
  · by_cases hj : j = i
    · subst hj; rw [updS_same]; exact nd
    · rw [updS_ne hj]; exact h.nd j
  · have hj : ρ.length ≤ j := by simpa using hj
    rw [updS_ne (by omega)]
    exact h.out j hj
  · by_cases hj : j = i
    · subst hj
      rw [List.getElem?_set_self hi] at q
      have q : some m = some m' := Option.some.inj q
      cases q
      exact ⟨v, by rw [List.getElem?_set_self (by rw [h.len]; exact hi)], by rw [updS_same]; exact hm⟩
    · rw [List.getElem?_set_ne (Ne.symm hj)] at q
      obtain ⟨v', a, b⟩ := h.at_ j m' q
      exact ⟨v', by rw [List.getElem?_set_ne (Ne.symm hj)]; exact a, by rw [updS_ne hj]; exact b⟩
theorem Slots.wipe {K : PySem.W.Frag} {H : Hp} {σ : L2.St} {ρ : Env} {S : Nat → List Addr} (h : Slots K H σ ρ S) (vs : List Nat) : Slots K H (L2.wipe σ vs) (wipeE vs ρ) S := by
  refine ⟨by simp [wipeE, wipe_length, h.len], h.nd, fun i hi => h.out i (by simpa [wipeE] using hi), fun i m q => ?_⟩
  obtain ⟨h1, h2⟩ := wipeE_get q
  obtain ⟨v, h3, h4⟩ := h.at_ i m h2
  refine ⟨v, ?_, h4⟩
  have : ∀ vs : List Nat, vs.contains i = false → (L2.wipe σ vs)[i]? = σ[i]? := fun vs => by
    induction vs with
    | nil => intro _; rfl
    | cons j vs ih =>
      intro hc
      simp only [List.contains_cons, Bool.or_eq_false_iff, beq_eq_false_iff_ne] at hc
      unfold L2.wipe
      rw [List.getElem?_set_ne (Ne.symm hc.1)]
      exact ih hc.2
  rw [this vs h1]
  exact h3
theorem wipe_out {σ : L2.St} {j : Nat} : ∀ {vs : List Nat}, j ∉ vs → (L2.wipe σ vs)[j]? = σ[j]?
  | [], _ => rfl
  | v :: vs, h => by
    simp only [List.mem_cons, not_or] at h
    unfold L2.wipe
    rw [List.getElem?_set_ne (Ne.symm h.1)]
    exact wipe_out h.2
theorem wipe_eq {σ σ' : L2.St} {vs : List Nat} (hl : σ'.length = σ.length) (h : ∀ j, j ∉ vs → σ'[j]? = σ[j]?) : L2.wipe σ' vs = L2.wipe σ vs := by
  have get : ∀ (τ : L2.St) (vs : List Nat) (i : Nat), (L2.wipe τ vs)[i]? = if i ∈ vs ∧ i < τ.length then some none else τ[i]? := fun τ vs i => by
    induction vs with
    | nil => simp [L2.wipe]
    | cons j vs ih =>
      unfold L2.wipe
      by_cases hj : j = i
      · subst hj
        by_cases hl : j < τ.length
        · rw [List.getElem?_set_self (by rw [wipe_length]; exact hl), if_pos ⟨List.mem_cons_self, hl⟩]
        · rw [if_neg (fun z => hl z.2), List.getElem?_eq_none (by simp [wipe_length]; omega), List.getElem?_eq_none (by omega)]
      · rw [List.getElem?_set_ne hj, ih]
        by_cases hi : i ∈ vs
        · simp [hi]
        · have : i ∉ j :: vs := by
            simp only [List.mem_cons, not_or]
            exact ⟨fun e => hj e.symm, hi⟩
          simp [hi, this]
  refine List.ext_getElem? fun i => ?_
  rw [get, get, hl]
  by_cases hi : i ∈ vs
  · by_cases hl' : i < σ.length
    · rw [if_pos ⟨hi, hl'⟩, if_pos ⟨hi, hl'⟩]
    · rw [if_neg (fun z => hl' z.2), if_neg (fun z => hl' z.2), List.getElem?_eq_none (by omega), List.getElem?_eq_none (by omega)]
  · rw [if_neg (fun z => hi z.1), if_neg (fun z => hi z.1)]
    exact h i hi
section
variable {X : Cx} {pos : Pos} {vs : List Nat}
theorem pgs_s {i : Nat} {x : Str} (hN : X.N.Nodup) (hi : X.N[i]? = some x) (hx : Loc X.env.scope x) (hv : i ∈ vs) (hf : X.fn x = true ∨ X.env.scope.names.lookup x = some .local := by first | exact .inl rfl | exact .inr rfl | assumption) :
    PG X (.Name x pos) (tGS X.K vs (gSet i)) := ⟨fun pins s σ H v u Q I rr q => by
  obtain ⟨ρ, S, m, T, ρ', h1, h2, h3, h4, k⟩ := q
  cases h4
  have hl : i < ρ.length := by
    rw [← h1.len, I.len]
    exact (List.getElem?_eq_some_iff.mp hi).1
  refine (pg_name hN hi hx hf).run pins s σ H v u Q I rr (k _ _ (h1.put hl h2 h3) (by simp) fun j hj => ?_)
  rw [List.getElem?_set_ne]
  rintro rfl
  exact hj hv⟩
theorem pgss_nil : PGs X [] (tGSs X.K vs gNilM) := ⟨fun pins s σ H xs us Q I rr q => by
  obtain ⟨ρ, S, ms, T, ρ', h1, h2, h3, h4, k⟩ := q
  cases h2
  · cases h4
    exact pgs_nil.run pins s σ H [] us Q I rr ⟨rfl, k σ S h1 rfl fun j _ => rfl⟩
  · cases h4⟩
theorem pgss_cons {e : Expr} {es : List Expr} {g : M → Env → R Env} {h : List M → Env → R Env} (h1 : PG X e (tGS X.K vs g)) (h2 : PGs X es (tGSs X.K vs h)) (hs : (assignEach (e :: es) X.env).map (·.2) = assign e X.env :: (assignEach es X.env).map (·.2) := by rfl) : PGs X (e :: es) (tGSs X.K vs (gConsM g h)) :=
  ⟨fun pins s σ H xs us Q I rr q => by
    refine (pgs_cons h1 h2 hs).run pins s σ H xs us Q I rr ?_
    obtain ⟨ρ, S, ms, T, ρ', g1, g2, g3, g4, k⟩ := q
    cases g2 with
    | nil => cases g4
    | cons is iss =>
      rename_i v m T1 T2 vs' ms
      obtain ⟨ρ1, e1, e2⟩ := R.bind_ok (show (g m ρ >>= fun ρ => h ms ρ) = .ok ρ' from g4)
      have nd := List.nodup_append.mp g3
      exact ⟨v, vs', rfl, ρ, S, m, T1, ρ1, g1, is, nd.1, e1, fun σ' S' q1 ql q2 => ⟨ρ1, S', ms, T2, ρ', q1, iss, nd.2.1, e2, fun σ2 S2 q3 ql2 q4 => k σ2 S2 q3 (ql2.trans ql) fun j hj => (q4 j hj).trans (q2 j hj)⟩⟩⟩
theorem pgs_tup {es : List Expr} {k : Nat} {h : List M → Env → R Env} {n : Nat} (hc : X.calm = true) (hh : PGs X es (tGSs X.K vs h))
    (hn : (assignEach es X.env).length = n := by rfl) (hst : (assignEach es X.env).findIdx? (·.1) = none := by rfl) : PG X (.Tuple es k pos) (tGS X.K vs (gTupM n h)) := (pg_tup hc hh hn hst).imp fun v σ H Q q => by
  obtain ⟨ρ, S, m, T, ρ', h1, h2, h3, h4, kk⟩ := q
  obtain ⟨ms, e1, e2⟩ := R.bind_ok (show (unT n m >>= fun ms => h ms ρ) = .ok ρ' from h4)
  cases h2 with
  | im is =>
    cases is with
    | tup hs r2 =>
      rename_i a vs l
      have e1 : (if l.length = n then R.ok (l.map M.im) else R.no) = .ok ms := e1
      split at e1
      · rename_i hl
        cases e1
        exact ⟨a, vs, rfl, hs, by rw [r2.length]; exact hl, ρ, S, _, [], ρ', h1, IsMs.ims r2, h3, e2, kk⟩
      · cases e1
    | _ => cases e1
  | tpm hs r2 =>
    rename_i a vs l
    have e1 : (if l.length = n then R.ok l else R.no) = .ok ms := e1
    split at e1
    · rename_i hl
      cases e1
      exact ⟨a, vs, rfl, hs, by rw [r2.length]; exact hl, ρ, S, _, T, ρ', h1, r2, h3, e2, kk⟩
    · cases e1
  | _ => cases e1
def lcR (g : M → Env → R Env) (ft : Env → R Bool) (fe : Env → R M) (ρ : Env) : List M → R (List M)
  | [] => .ok []
  | m :: ms => g m ρ >>= fun ρ1 => ft ρ1 >>= fun b => if b then fe ρ1 >>= fun v => lcR g ft fe ρ ms >>= fun vs => .ok (v :: vs) else lcR g ft fe ρ ms
/-- [e for x in xs if ..] -/
def lcM (vs : List Nat) (f : Env → R (List M)) (g : M → Env → R Env) (ft : Env → R Bool) (fe : Env → R M) : Env → R M := fun ρ => f ρ >>= fun xs => if xs.length ≤ sizeLine then lcR g ft fe (wipeE vs ρ) xs >>= fun l => .ok (.lst l) else .no
def yesM : Env → R Bool := fun _ => .ok true
theorem ptsd_nil : PTs X [] (tDT X.K yesM) := by
  refine ⟨fun pins s σ H Q I h => pts_nil.run pins s σ H Q I ?_⟩
  obtain ⟨ρ, S, b, h1, h2, k⟩ := h
  cases h2
  exact k H (Ex.refl H)
theorem ptsd_one {e : Expr} {f : Env → R Bool} (h : PT X e (tDT X.K f)) : PTs X [e] (tDT X.K f) := pts_one h
theorem imp_lc {U : List Nat} {f : Env → R (List M)} {g : M → Env → R Env} {ft : Env → R Bool} {fe : Env → R M} {σ : L2.St} {H : Hp} {Q : VK} (h : tD X.K [] (lcM vs f g ft fe) σ H Q) : tLc (tI X.K U f) (tGS X.K vs g) (tDT X.K ft) (tD X.K [] fe) vs σ H Q := by
  obtain ⟨ρ, S, m, sl, hm, k⟩ := h
  obtain ⟨xs, h1, h2⟩ := R.bind_ok (show (f ρ >>= fun xs => if xs.length ≤ sizeLine then lcR g ft fe (wipeE vs ρ) xs >>= fun l => .ok (.lst l) else .no) = .ok m from hm)
  split at h2
  · rename_i hlen
    obtain ⟨out, h3, h4⟩ := R.bind_ok h2
    cases h4
    refine ⟨ρ, S, xs, sl, h1, fun J H1 fp e sq hfp Dl hD => ?_⟩
    obtain ⟨G, Y, wk, hG, hY⟩ := sq.wk
    refine lc_it wk (fun i H' => ∃ done T todo, Ex H1 H' ∧ (∃ vs', H' Dl = some (.lst vs') ∧ IsMs X.K H' vs' done T ∧ vs'.length ≤ i) ∧ New H1 (Dl :: T) ∧ lcR g ft fe (wipeE vs ρ) (xs.drop i) = .ok todo ∧ done ++ todo = out) ?_ (fun i H' _ p => ?_) (fun i x H' H2 hi' p hy => ?_) (fun H' p => ?_)
    · exact ⟨[], [], out, Ex.new hD, ⟨[], upd_same, .nil, Nat.le_refl _⟩, ⟨fun a ha => by
        rw [List.mem_singleton.mp ha]
        exact hD, by simp⟩, h3, rfl⟩
    · obtain ⟨_, _, _, p, _⟩ := p
      exact hG H' (fun a _ o ho => p a o ho) (Ex.tk p)
    · obtain ⟨done, T, todo, p1, ⟨vs', p2, p3, p6⟩, p4, p5, p7⟩ := p
      obtain ⟨e2, m, T1, g1, g2, g3, g4⟩ := hY i H' x H2 hi' (fun a _ o ho => p1 a o ho) (Ex.tk p1) hy
      have g1' : xs[i] = m := by
        rw [List.getElem?_eq_getElem hi'] at g1
        exact Option.some.inj g1
      rw [List.drop_eq_getElem_cons hi', g1'] at p5
      obtain ⟨ρ1, q3, q4⟩ := R.bind_ok (show (g m (wipeE vs ρ) >>= fun ρ1 => ft ρ1 >>= fun b => if b then fe ρ1 >>= fun v => lcR g ft fe (wipeE vs ρ) (xs.drop (i + 1)) >>= fun vs => .ok (v :: vs) else lcR g ft fe (wipeE vs ρ) (xs.drop (i + 1))) = .ok todo from p5)
      obtain ⟨b, q5, q6⟩ := R.bind_ok q4
      have slw : Slots X.K H2 (L2.wipe σ vs) (wipeE vs ρ) S := (((sl.ex e).ex p1).ex e2).wipe vs
      refine ⟨wipeE vs ρ, S, m, T1, ρ1, slw, g2, g3, q3, fun σ2 S2 sl2 hl hσ => ?_⟩
      refine ⟨?_, ρ1, S2, b, sl2, q5, fun H3 e3 => ?_⟩
      · rw [wipe_eq hl hσ]
        exact wipe_eq (wipe_length σ vs) fun j hj => wipe_out hj
      · cases b with
        | true =>
          rw [if_pos rfl] at q6 ⊢
          obtain ⟨v, q7, q8⟩ := R.bind_ok q6
          obtain ⟨rest, q9, q10⟩ := R.bind_ok q8
          cases q10
          refine ⟨ρ1, S2, v, sl2.ex e3, q7, fun y H4 Ty e4 isy fr => ?_⟩
          have ex4 : Ex H' H4 := (e2.trans e3).trans e4
          refine ⟨vs', ex4 _ _ p2, ?_, done ++ [v], T ++ Ty, rest, ?_, ?_, ?_, q9, by rw [List.append_assoc]; exact p7⟩
          · omega
          · exact Ex.mut (p1.trans ex4) hD
          · have nDT : ∀ a ∈ T, a ≠ Dl := fun a ha z => by
              subst z
              exact (List.nodup_cons.mp p4.nd).1 ha
            refine ⟨vs' ++ [y], upd_same, IsMs.append (p3.keep ⟨fun a xs h => ?_, fun a o u h => ?_, fun a h => (ex4.nf a h).upd (by intro _ _ q; cases q)⟩ fun a ha o h => ?_) ?_, by rw [List.length_append]; simp; omega⟩
            · rw [upd_ne (by rintro rfl; rw [p2] at h; cases h)]
              exact ex4 _ _ h
            · rw [upd_ne (by rintro rfl; rw [p2] at h; cases h)]
              exact ex4 _ _ h
            · rw [upd_ne (nDT a ha)]
              exact ex4 _ _ h
            · have nDy : ∀ a ∈ Ty, a ≠ Dl := fun a ha z => by
                subst z
                have := fr.new.free a ha
                rw [e3 _ _ (e2 _ _ p2)] at this
                cases this
              have h5 : IsM X.K (upd H4 Dl (.lst (vs' ++ [y]))) y v Ty := isy.keep ⟨fun a xs h => by
                rw [upd_ne (by rintro rfl; rw [ex4 _ _ p2] at h; cases h)]
                exact h, fun a o u h => by
                rw [upd_ne (by rintro rfl; rw [ex4 _ _ p2] at h; cases h)]
                exact h, fun a h => h.upd (by intro _ _ q; cases q)⟩ fun a ha o h => by
                rw [upd_ne (nDy a ha)]
                exact h
              have := IsMs.cons h5 .nil
              rwa [List.append_nil] at this
          · exact New.app (T := Dl :: T) p4 (fun a ha => by
              rcases List.mem_cons.mp ha with rfl | ha
              · exact ⟨_, e3 _ _ (e2 _ _ p2)⟩
              · obtain ⟨o, z⟩ := p3.there a ha
                exact ⟨o, e3 _ _ (e2 _ _ z)⟩) ((p1.trans e2).trans e3) fr.new
        | false =>
          rw [if_neg Bool.false_ne_true] at q6 ⊢
          have ex3 : Ex H' H3 := e2.trans e3
          exact ⟨done, T, todo, p1.trans ex3, ⟨vs', ex3 _ _ p2, p3.ex ex3, by omega⟩, p4, q6, p7⟩
    · obtain ⟨done, T, todo, p1, ⟨vs', p2, p3, p6⟩, p4, p5, p7⟩ := p
      rw [List.drop_length] at p5
      cases p5
      rw [List.append_nil] at p7
      subst p7
      exact k _ H' (Dl :: T) (e.trans p1) (.lst p2 p3) (p4.back e).fr
  · cases h2
end
end DL
/-! DL5: expressions that change what slots stand for, calls, places, what changes an object. -/
namespace DL
open PySem PySem.Spec PyProof.Rows L2

/-! ### promises of defs -/
section
variable (K : PySem.W.Frag)
/-- a def that changes nothing: its value by F -/
def spP (F : List M → R M) : Sp := fun vs H Q _ => ∃ ms Ts r, Ars K H vs ms Ts ∧ F ms = .ok r ∧ ∀ v H2 T, Ex H H2 → IsM K H2 v r T → New H T → Q v H2
/-- a def that changes its first argument's object -/
def spX (F : M → List M → R (M × M)) : Sp := fun vs H Q _ => ∃ v0 vr m0 ms S0 Ts r m0', vs = v0 :: vr ∧ IsM K H v0 m0 S0 ∧ S0.Nodup ∧ (∀ a ∈ S0, NF H a) ∧ Ars K H vr ms Ts ∧ (∀ a ∈ Ts.flatten, a ∉ S0) ∧ F m0 ms = .ok (r, m0') ∧
  ∀ v H2 T S0', Fm S0 H H2 → IsM K H2 v r T → IsM K H2 v0 m0' S0' → T.Nodup → S0'.Nodup → (∀ a ∈ T, (H a = none ∨ a ∈ S0) ∧ a ∉ S0') → (∀ a ∈ S0', a ∈ S0 ∨ H a = none) → Q v H2
/-- a place within the object of the slot i -/
def tP (i : Nat) (p : List Stp) : TE := fun σ H Q => ∃ v w, σ[i]? = some (some v) ∧ atV H v p = some w ∧ Q w H
end
section
variable {X : Cx} {md : List Md} {pos : Pos} {CX : CXT} {k : Nat} {f C : Addr} {fd : FuncData} {ps : List Str} {x m : Str} {p apos : Pos} {e o : Expr} {es : List Expr}

/-! ### places -/
theorem pp_var {i : Nat} {x : Str} {pos : Pos} (hN : X.N[i]? = some x := by rfl) (hv : Vis X.env.scope x := by first | exact Or.inl rfl | exact Or.inr (Or.inl rfl) | exact Or.inr (Or.inr rfl)) (hd : (x == ("__debug__" : Str)) = false := by decide)
    (hcd : (x == ("__classdict__" : Str)) = false := by decide) : PE X (.Name x pos) (tP i []) := (pe_var hN hv hd hcd).imp fun σ H Q h => by
  obtain ⟨v, w, h1, h2, h3⟩ := h
  cases h2
  exact ⟨v, h1, h3⟩
theorem atV_fld {H : Hp} {C : Addr} {f : Str} : ∀ {p : List Stp} {v w : V}, atV H v (p ++ [.fld C f]) = some w → ∃ a dx vs, atV H v p = some (.ref a) ∧ H a = some (.ins C dx vs) ∧ vs.lookup f = some w
  | [], v, w, h => by
    cases v with
    | ref a =>
      unfold atV at h
      simp only [List.nil_append] at h
      split at h
      · rename_i C' dx vs e
        split at h
        · rename_i hc
          subst hc
          split at h
          · rename_i u e2
            unfold atV at h
            cases h
            exact ⟨a, dx, vs, rfl, e, e2⟩
          · cases h
        · cases h
      · cases h
    | _ => simp [atV] at h
  | .fld C1 f1 :: p, v, w, h => by
    cases v with
    | ref a =>
      simp only [List.cons_append, atV] at h ⊢
      split at h
      · rename_i C' dx vs e
        split at h
        · rename_i hc
          split at h
          · rename_i u e2
            obtain ⟨a', dx', vs', h1, h2, h3⟩ := atV_fld (p := p) h
            refine ⟨a', dx', vs', ?_, h2, h3⟩
            simp only [e, if_pos hc, e2]
            exact h1
          · cases h
        · cases h
      · cases h
    | _ => simp [atV] at h
theorem pp_fld {i : Nat} {pl : List Stp} {fn : Str} (he : PE X e (tP i pl)) (c : Cls X.K C) (n : NoAttr X.K C fn) (hb : attributeBase e fn X.env (eval e X.env) = eval e X.env := by rfl) : PE X (.Attribute e fn pos) (tP i (pl ++ [.fld C fn])) := (pe_fld he hb).imp fun σ H Q h => by
  obtain ⟨v, w, h1, h2, h3⟩ := h
  obtain ⟨a, dx, vs, g1, g2, g3⟩ := atV_fld h2
  exact ⟨v, .ref a, h1, g1, a, C, dx, vs, w, rfl, g2, c, n, g3, h3⟩
/-- a field, read -/
def fldM (C : Addr) (fn : Str) : M → R M
  | .obj C' fs => if C' = C then match fs.lookup fn with
    | some m => .ok m
    | none => .no
    else .no
  | _ => .no
theorem pd_fld {U : List Nat} {g : Env → R M} {fn : Str} (he : PE X e (tD X.K U g)) (c : Cls X.K C) (n : NoAttr X.K C fn) (hb : attributeBase e fn X.env (eval e X.env) = eval e X.env := by rfl) : PE X (.Attribute e fn pos) (tD X.K U fun ρ => g ρ >>= fldM C fn) := (pe_fld he hb).imp fun σ H Q h => by
  obtain ⟨ρ, S, m, sl, hm, kk⟩ := h
  obtain ⟨y, h1, h2⟩ := R.bind_ok hm
  refine ⟨ρ, S, y, sl, h1, fun v H2 T e is fr => ?_⟩
  cases is with
  | obj ha hn hr =>
    rename_i a C' dx vs fs S'
    simp only [fldM] at h2
    by_cases hC : C' = C
    case neg => rw [if_neg hC] at h2; cases h2
    rw [if_pos hC] at h2
    subst hC
    cases hl : fs.lookup fn with
    | none => rw [hl] at h2; cases h2
    | some m1 =>
      rw [hl] at h2
      cases h2
      obtain ⟨k, g1, g2, _⟩ := look_ix (β := V) hl
      obtain ⟨v1, T1, q1, q2, q3⟩ := hr.get g1
      refine ⟨a, _, dx, vs, v1, rfl, ha, c, n, by rw [g2 vs hn]; exact q1, kk v1 H2 T1 e q2 ⟨q3.nodup (List.nodup_cons.mp fr.nd).2, fun b hb => fr.fr b (List.mem_cons_of_mem _ (q3.subset hb))⟩⟩
  | _ => cases h2

/-! ### calls that change nothing -/
variable {U : List Nat} {g : Env → R (List M)} {F : List M → R M}
theorem imp_callP {E : XK} {σ : L2.St} {H : Hp} {Q : VK} (h : tD X.K [] (fun ρ => g ρ >>= F) σ H Q) : tCall (spP X.K F) [] E (tDA X.K U g) σ H Q := by
  obtain ⟨ρ, S, m, sl, hm, kk⟩ := h
  obtain ⟨y, h1, h2⟩ := R.bind_ok hm
  refine ⟨ρ, S, y, sl, h1, fun vs H2 Ts e is _ => ?_⟩
  show spP X.K F (vs ++ []) H2 Q E
  rw [List.append_nil]
  exact ⟨y, Ts, m, is, h2, fun v H3 T e3 is3 nw => kk v H3 T (e.trans e3) is3 (nw.back e).fr⟩
theorem pd_call {E : XK} (Fn : FnOk X.prog X.w X.K X.mg X.base CX k f fd ps (spP X.K F)) (hr : Room k X.A) (hg : Gl X x) (hm : X.mg x = some (.ref f)) (hk : PySem.W.keepIn X.K (.ref f) = true) (hb : Binds X.K fd ps []) (hx : Passes CX X E)
    (ha : PA X (e :: es) (tDA X.K U g)) (hdb : (x == ("__debug__" : Str)) = false := by decide) (he : starEach (e :: es) X.env = (false, eval e X.env) :: starEach es X.env := by rfl) (hpl : (backTo pos (starEach es X.env)).any (·.1) = false := by rfl) :
    PE X (.Call (.Name x p) (e :: es) [] pos) (tD X.K [] fun ρ => g ρ >>= F) := (pe_call (dvs := []) Fn hr hg hm hk hb .nil hx ha hdb he hpl).imp fun _ _ _ h => imp_callP h
theorem pd_call0 {E : XK} (Fn : FnOk X.prog X.w X.K X.mg X.base CX k f fd ps (spP X.K F)) (hr : Room k X.A) (hg : Gl X x) (hm : X.mg x = some (.ref f)) (hk : PySem.W.keepIn X.K (.ref f) = true) (hb : Binds X.K fd ps []) (hx : Passes CX X E)
    (hdb : (x == ("__debug__" : Str)) = false := by decide) : PE X (.Call (.Name x p) [] [] pos) (tD X.K [] fun _ => F []) := (pe_call0 (dvs := []) Fn hr hg hm hk hb .nil hx hdb).imp fun σ H Q h => by
  obtain ⟨ρ, S, m, sl, hm, kk⟩ := h
  exact ⟨[], [], m, .nil, hm, fun v H3 T e3 is3 nw => kk v H3 T e3 is3 nw.fr⟩
/-- the object is of the class, and m is no field of it -/
def isObj (C : Addr) (m : Str) : M → R M
  | .obj C' fs => if C' = C then (if (fs.lookup m).isNone then .ok (.obj C' fs) else .no) else .no
  | _ => .no
theorem look_none {α β : Type} {f : Str} : ∀ {l : List (Str × α)} {l' : List (Str × β)}, l.map (·.1) = l'.map (·.1) → l.lookup f = none → l'.lookup f = none
  | [], [], _, _ => rfl
  | [], _ :: _, h, _ => by simp at h
  | _ :: _, [], h, _ => by simp at h
  | (a, x) :: l, (b, y) :: l', h, e => by
    simp only [List.map_cons, List.cons.injEq] at h
    rw [List.lookup_cons] at e ⊢
    rw [← h.1]
    cases q : f == a with
    | true => rw [q] at e; cases e
    | false =>
      rw [q] at e
      exact look_none h.2 e
theorem isObj_is {K : PySem.W.Frag} {H : Hp} {C : Addr} {m : Str} {v : V} {a b : M} {T : List Addr} (is : IsM K H v a T) (h : isObj C m a = .ok b) : b = a ∧ ∃ p dx fs, v = .ref p ∧ H p = some (.ins C dx fs) ∧ fs.lookup m = none := by
  cases is with
  | obj ha hn hr =>
    rename_i a C' dx vs fs S'
    simp only [isObj] at h
    split at h
    · rename_i hC
      subst hC
      split at h
      · rename_i hl
        cases h
        refine ⟨rfl, a, dx, vs, rfl, ha, ?_⟩
        refine look_none hn.symm ?_
        cases q : fs.lookup m with
        | none => rfl
        | some y => rw [q] at hl; cases hl
      · cases h
    · cases h
  | _ => cases h
theorem pd_meth {E : XK} {pl : Sem Bool} {Uo : List Nat} {fo : Env → R M} (he : PE X o (tD X.K Uo fo)) (c : Cls X.K C) (hm : Meth X.K C m f) (Fn : FnOk X.prog X.w X.K X.mg X.base CX k f fd ps (spP X.K F)) (hr : Room k X.A) (hb : Binds X.K fd ps []) (hx : Passes CX X E) (ha : PA X (e :: es) (tDA X.K U g))
    (hst : starEach (e :: es) X.env = (false, eval e X.env) :: starEach es X.env := by rfl) (hpl : (backTo pos (starEach es X.env)).any (·.1) = false := by rfl)
    (ht : eval (.Call (.Attribute o m apos) (e :: es) [] pos) X.env = (do
      let ov ← eval o X.env
      standAt apos.atName
      let (f, first) ← holding [ov] (getMethod ov m pl)
      callWith pos f first (backTo pos (starEach (e :: es) X.env)) (backToKw pos (keywordEach [] X.env))) := by rfl) :
    PE X (.Call (.Attribute o m apos) (e :: es) [] pos) (tD X.K [] fun ρ => fo ρ >>= fun a => isObj C m a >>= fun a => g ρ >>= fun ms => F (a :: ms)) := (pe_meth (dvs := []) (E := E) he c hm Fn hr hb .nil hx ha hst hpl ht).imp fun σ H Q h => by
  obtain ⟨ρ, S, mm, sl, hmm, kk⟩ := h
  obtain ⟨a, h1, h2⟩ := R.bind_ok hmm
  obtain ⟨b, h3, h4⟩ := R.bind_ok h2
  obtain ⟨ms, h5, h6⟩ := R.bind_ok h4
  refine ⟨ρ, S, a, sl, h1, fun v H2 T e is fr => ?_⟩
  obtain ⟨rfl, pa, dx, fs, rfl, g1, g2⟩ := isObj_is is h3
  refine ⟨pa, dx, fs, rfl, g1, g2, ρ, S, ms, sl.ex e, h5, fun vs H3 Ts e3 is3 _ => ?_⟩
  show spP X.K F (_ :: (vs ++ [])) H3 Q E
  rw [List.append_nil]
  exact ⟨_, T :: Ts, mm, .cons (is.ex e3) fr.nd is3, h6, fun v H4 T e4 is4 nw => kk v H4 T ((e.trans e3).trans e4) is4 (nw.back (e.trans e3)).fr⟩
theorem pd_meth0 {E : XK} {pl : Sem Bool} {Uo : List Nat} {fo : Env → R M} (he : PE X o (tD X.K Uo fo)) (c : Cls X.K C) (hm : Meth X.K C m f) (Fn : FnOk X.prog X.w X.K X.mg X.base CX k f fd ps (spP X.K F)) (hr : Room k X.A) (hb : Binds X.K fd ps []) (hx : Passes CX X E)
    (ht : eval (.Call (.Attribute o m apos) [] [] pos) X.env = (do
      let ov ← eval o X.env
      standAt apos.atName
      let (f, first) ← holding [ov] (getMethod ov m pl)
      callWith pos f first (backTo pos (starEach [] X.env)) (backToKw pos (keywordEach [] X.env))) := by rfl) :
    PE X (.Call (.Attribute o m apos) [] [] pos) (tD X.K [] fun ρ => fo ρ >>= fun a => isObj C m a >>= fun a => F [a]) := (pe_meth0 (dvs := []) (E := E) he c hm Fn hr hb .nil hx ht).imp fun σ H Q h => by
  obtain ⟨ρ, S, mm, sl, hmm, kk⟩ := h
  obtain ⟨a, h1, h2⟩ := R.bind_ok hmm
  obtain ⟨b, h3, h4⟩ := R.bind_ok h2
  refine ⟨ρ, S, a, sl, h1, fun v H2 T e is fr => ?_⟩
  obtain ⟨rfl, pa, dx, fs, rfl, g1, g2⟩ := isObj_is is h3
  exact ⟨pa, dx, fs, rfl, g1, g2, _, [T], mm, .cons is fr.nd .nil, h4, fun v H4 T e4 is4 nw => kk v H4 T (e.trans e4) is4 (nw.back e).fr⟩

/-! ### a call that changes an object at a place -/
theorem Rel.place {r : Rn} {H : Hp} {σ : L2.St} {ρ : Env} {S : Nat → List Addr} {i : Nat} {m n : M} {pl : List Stp} (h : Rel r H σ ρ S) (hi : r.md[i]? = some Md.loc ∨ r.md[i]? = some Md.io) (hm : getV ρ i = .ok m) (hs : subM m pl = some n) :
    ∃ v w T, σ[i]? = some (some v) ∧ atV H v pl = some w ∧ IsM r.K H w n T ∧ T.Nodup ∧ (∀ a ∈ T, r.Own a ∧ a ∈ S i) ∧
      ∀ H' n' T', Fm T H H' → IsM r.K H' w n' T' → T'.Nodup → (∀ a ∈ T', a ∈ T ∨ (r.Own a ∧ ∀ j, a ∉ S j)) → ∃ S', Rel r H' σ (ρ.set i (some (updM m pl n'))) S' ∧ ∀ a, (∀ j, a ∈ S' j → a ∈ T' ∨ ((∃ k, a ∈ S k) ∧ a ∉ T)) := by
  unfold getV at hm
  split at hm
  · rename_i m' e
    cases hm
    obtain ⟨v, h1, h2⟩ := h.sl.at_ i m e
    obtain ⟨w, T, g1, g2, g3, g4, g5⟩ := IsM.place pl h2 (h.sl.nd i) hs
    refine ⟨v, w, T, h1, g1, g2, g4, fun a ha => ⟨h.own i hi a (g3 a ha), g3 a ha⟩, fun H' n' T' f is nd s => ?_⟩
    obtain ⟨S', q1, q2, q3⟩ := g5 H' n' T' f is nd fun a ha => (s a ha).imp id fun z => z.2 i
    refine ⟨updS S i S', h.change hi h1 (f.mono g3) q1 q2 fun a ha => ?_, fun a j ha => ?_⟩
    · rcases q3 a ha with z | z
      · exact (s a z).imp (g3 a) id
      · exact .inl z.1
    · by_cases hj : j = i
      · subst hj
        rw [updS_same] at ha
        exact (q3 a ha).imp id fun z => ⟨⟨j, z.1⟩, z.2⟩
      · rw [updS_ne hj] at ha
        exact .inr ⟨⟨j, ha⟩, fun z => h.sep j i a hj ha (g3 a z) (h.own i hi a (g3 a z))⟩
  · cases hm
def plX (i : Nat) (pl : List Stp) (F : M → R (M × M)) : Env → R (M × Env) := fun ρ => getV ρ i >>= fun m => match subM m pl with
  | some n => F n >>= fun x => .ok (x.1, ρ.set i (some (updM m pl x.2)))
  | none => .no
/-- what stands ahead of a change at a place -/
theorem tX_place {r : Rn} {i : Nat} {pl : List Stp} {G : Env → R (List M)} {F : M → List M → R (M × M)} {σ : L2.St} {H : Hp} {Q : VK} (hi : r.md[i]? = some Md.loc ∨ r.md[i]? = some Md.io) (hU : i ∉ U)
    (h : tX r (fun ρ => G ρ >>= fun ms => plX i pl (fun n => F n ms) ρ) σ H Q) :
    ∃ v w, σ[i]? = some (some v) ∧ (∀ H1, Ex H H1 → atV H1 v pl = some w) ∧ (∃ n T ms y, IsM r.K H w n T ∧ F n ms = .ok y) ∧ tDA r.K U G σ H fun vs H1 => spX r.K F (w :: vs) H1 Q (fun _ _ _ => False) := by
  obtain ⟨ρ, S, m0, ρ', h1, h2, k⟩ := h
  obtain ⟨ms, h3, h4⟩ := R.bind_ok (show (G ρ >>= fun ms => plX i pl (fun n => F n ms) ρ) = .ok (m0, ρ') from h2)
  unfold plX at h4
  obtain ⟨m, h5, h6⟩ := R.bind_ok h4
  split at h6
  · rename_i n hs
    obtain ⟨y, h7, h8⟩ := R.bind_ok h6
    obtain ⟨r0, n'⟩ := y
    cases h8
    obtain ⟨v, w, T, e1, e2, is0, _⟩ := h1.place hi h5 hs
    have atw : ∀ H1, Ex H H1 → atV H1 v pl = some w := fun H1 ex => by
      obtain ⟨v', w', T', e1', e2', _⟩ := (h1.ex ex).place hi h5 hs
      rw [e1] at e1'
      cases e1'
      have mono : ∀ (pl : List Stp) (v w : V), atV H v pl = some w → atV H1 v pl = some w := fun pl => by
        induction pl with
        | nil => intro v w h; exact h
        | cons st pl ih =>
          intro v w h
          cases st with
          | fld C f =>
            cases v with
            | ref a =>
              simp only [atV] at h ⊢
              split at h
              · rename_i C' dx vs e
                rw [ex a _ e]
                simp only
                split at h
                · rename_i hc
                  rw [if_pos hc]
                  split at h
                  · rename_i u e2
                    exact ih u w h
                  · cases h
                · cases h
              · cases h
            | _ => simp [atV] at h
      exact mono pl v w e2
    refine ⟨v, w, e1, atw, ⟨n, T, ms, _, is0, h7⟩, ρ, S, ms, h1.sl, h3, fun vs H1 Ts ex ars hT => ?_⟩
    obtain ⟨v', w', T, e1', e2', e3, e4, e5, e6⟩ := (h1.ex ex).place hi h5 hs
    rw [e1] at e1'
    cases e1'
    rw [atw H1 ex] at e2'
    cases e2'
    refine ⟨w, vs, n, ms, T, Ts, r0, n', rfl, e3, e4, fun a ha => (h1.ex ex).nf (e5 a ha).1, ars, fun a ha hb => ?_, h7, fun v2 H2 Tr S0' f is1 is2 nd1 nd2 d1 d2 => ?_⟩
    · rcases hT a ha with z | ⟨j, hj, z⟩
      · obtain ⟨o, q⟩ := h1.there i a (e5 a hb).2
        rw [z] at q; cases q
      · refine h1.sep j i a ?_ z (e5 a hb).2 (e5 a hb).1
        rintro rfl
        exact hU hj
    · obtain ⟨S', q1, q2⟩ := e6 H2 n' S0' f is2 nd2 fun a ha => (d2 a ha).imp id (h1.ex ex).newApart
      refine k v2 H2 S' Tr q1 ((Ex.tk ex).trans f.tk) is1 nd1 fun a ha => ⟨?_, fun j hj => ?_⟩
      · rcases (d1 a ha).1 with z | z
        · exact (h1.ex ex).new z
        · exact (e5 a z).1
      · rcases q2 a j hj with z | ⟨⟨l, z⟩, y⟩
        · exact (d1 a ha).2 z
        · rcases (d1 a ha).1 with u | u
          · obtain ⟨o, q⟩ := (h1.ex ex).there l a z
            rw [u] at q; cases q
          · exact y u
  · cases h6
variable {Fx : M → List M → R (M × M)}
theorem spX_E {K : PySem.W.Frag} {vs : List V} {H : Hp} {Q : VK} {E E' : XK} (h : spX K Fx vs H Q E) : spX K Fx vs H Q E' := h
theorem pxd_call {E : XK} {i : Nat} {pl : List Stp} (hi : md[i]? = some Md.loc ∨ md[i]? = some Md.io) (hU : i ∉ U) (Fn : FnOk X.prog X.w X.K X.mg X.base CX k f fd ps (spX X.K Fx)) (hr : Room k X.A) (hg : Gl X x) (hm : X.mg x = some (.ref f)) (hk : PySem.W.keepIn X.K (.ref f) = true) (hb : Binds X.K fd ps []) (hx : Passes CX X E)
    (ho : PE X e (tP i pl)) (ha : PA X es (tDA X.K U g)) (hs : starEach (e :: es) X.env = (false, eval e X.env) :: starEach es X.env := by rfl) (hdb : (x == ("__debug__" : Str)) = false := by decide) (hpl : (backTo pos (starEach es X.env)).any (·.1) = false := by rfl) :
    PXD X md (.Call (.Name x p) (e :: es) [] pos) (fun ρ => g ρ >>= fun ms => plX i pl (fun n => Fx n ms) ρ) := fun r hK hmd => (pe_call (dvs := []) Fn hr hg hm hk hb .nil hx (pa_cons ho ha hs) hdb hs hpl).imp fun σ H Q h => by
  obtain ⟨v, w, h1, h2, _, h3⟩ := tX_place (U := U) (by rw [hmd]; exact hi) hU h
  rw [hK] at h3
  refine ⟨v, w, h1, h2 H (Ex.refl H), ?_⟩
  obtain ⟨ρ, S, ms, g1, g2, g3⟩ := h3
  refine ⟨ρ, S, ms, g1, g2, fun vs H1 Ts e a b => ?_⟩
  show spX X.K Fx ((w :: vs) ++ []) H1 Q E
  rw [List.append_nil]
  exact g3 vs H1 Ts e a b
theorem spX_obj {K : PySem.W.Frag} {vs : List V} {H : Hp} {Q : VK} {E E' : XK} (h : spX K (fun n ms => isObj C m n >>= fun n => Fx n ms) vs H Q E) : spX K Fx vs H Q E' := by
  obtain ⟨v0, vr, m0, ms, S0, Ts, r0, m0', h1, h2, h3, h8, h4, h5, h6, h7⟩ := h
  obtain ⟨b, g1, g2⟩ := R.bind_ok h6
  obtain ⟨rfl, _⟩ := isObj_is h2 g1
  exact ⟨v0, vr, _, ms, S0, Ts, r0, m0', h1, h2, h3, h8, h4, h5, g2, h7⟩
/-- o.m(..) that changes the object at a place -/
theorem pxd_meth {E : XK} {pls : Sem Bool} {i : Nat} {pl : List Stp} (hi : md[i]? = some Md.loc ∨ md[i]? = some Md.io) (hU : i ∉ U) (ho : PE X o (tP i pl)) (c : Cls X.K C) (hm : Meth X.K C m f) (Fn : FnOk X.prog X.w X.K X.mg X.base CX k f fd ps (spX X.K Fx)) (hr : Room k X.A) (hb : Binds X.K fd ps []) (hx : Passes CX X E) (ha : PA X (e :: es) (tDA X.K U g))
    (hst : starEach (e :: es) X.env = (false, eval e X.env) :: starEach es X.env := by rfl) (hpl : (backTo pos (starEach es X.env)).any (·.1) = false := by rfl)
    (ht : eval (.Call (.Attribute o m apos) (e :: es) [] pos) X.env = (do
      let ov ← eval o X.env
      standAt apos.atName
      let (f, first) ← holding [ov] (getMethod ov m pls)
      callWith pos f first (backTo pos (starEach (e :: es) X.env)) (backToKw pos (keywordEach [] X.env))) := by rfl) :
    PXD X md (.Call (.Attribute o m apos) (e :: es) [] pos) (fun ρ => g ρ >>= fun ms => plX i pl (fun n => isObj C m n >>= fun n => Fx n ms) ρ) := fun r hK hmd => (pe_meth (dvs := []) (E := E) ho c hm Fn hr hb .nil hx ha hst hpl ht).imp fun σ H Q h => by
  obtain ⟨v, w, h1, h2, ⟨n, T, ms, y, is, hy⟩, h3⟩ := tX_place (U := U) (F := fun n ms => isObj C m n >>= fun n => Fx n ms) (by rw [hmd]; exact hi) hU h
  rw [hK] at h3
  obtain ⟨b, hb1, _⟩ := R.bind_ok hy
  obtain ⟨rfl, pa, dx, fs, rfl, g1, g2⟩ := isObj_is is hb1
  refine ⟨v, _, h1, h2 H (Ex.refl H), pa, dx, fs, rfl, g1, g2, ?_⟩
  obtain ⟨ρ, S, ms, g3, g4, g5⟩ := h3
  refine ⟨ρ, S, ms, g3, g4, fun vs H1 Ts e a b => ?_⟩
  show spX X.K Fx (_ :: (vs ++ [])) H1 Q E
  rw [List.append_nil]
  exact spX_obj (g5 vs H1 Ts e a b)
theorem pxd_meth0 {E : XK} {pls : Sem Bool} {i : Nat} {pl : List Stp} (hi : md[i]? = some Md.loc ∨ md[i]? = some Md.io) (ho : PE X o (tP i pl)) (c : Cls X.K C) (hm : Meth X.K C m f) (Fn : FnOk X.prog X.w X.K X.mg X.base CX k f fd ps (spX X.K Fx)) (hr : Room k X.A) (hb : Binds X.K fd ps []) (hx : Passes CX X E)
    (ht : eval (.Call (.Attribute o m apos) [] [] pos) X.env = (do
      let ov ← eval o X.env
      standAt apos.atName
      let (f, first) ← holding [ov] (getMethod ov m pls)
      callWith pos f first (backTo pos (starEach [] X.env)) (backToKw pos (keywordEach [] X.env))) := by rfl) :
    PXD X md (.Call (.Attribute o m apos) [] [] pos) (fun ρ => plX i pl (fun n => isObj C m n >>= fun n => Fx n []) ρ) := fun r hK hmd => (pe_meth0 (dvs := []) (E := E) ho c hm Fn hr hb .nil hx ht).imp fun σ H Q h => by
  obtain ⟨v, w, h1, h2, ⟨n, T, ms, y, is, hy⟩, h3⟩ := tX_place (U := []) (G := fun _ => .ok []) (F := fun n ms => isObj C m n >>= fun n => Fx n ms) (by rw [hmd]; exact hi) (by simp) h
  rw [hK] at h3
  obtain ⟨b, hb1, _⟩ := R.bind_ok hy
  obtain ⟨rfl, pa, dx, fs, rfl, g1, g2⟩ := isObj_is is hb1
  refine ⟨v, _, h1, h2 H (Ex.refl H), pa, dx, fs, rfl, g1, g2, ?_⟩
  obtain ⟨ρ, S, ms, g3, g4, g5⟩ := h3
  cases g4
  show spX X.K Fx (_ :: ([] ++ [])) H Q E
  exact spX_obj (E' := E) (g5 [] H [] (Ex.refl H) .nil (fun _ z => (nomatch z)))
/-! ### a new object -/
def mkM (C : Addr) (F : M → List M → R (M × M)) (ms : List M) : R M := F (.obj C []) ms >>= fun x => match x.1 with
  | .im .non => .ok x.2
  | _ => .no
theorem mk_ok {E : XK} {H1 : Hp} {Q : VK} {vs : List V} {ms : List M} {Ts : List (List Addr)} {m : M} (ars : Ars X.K H1 vs ms Ts) (h : mkM C Fx ms = .ok m) (kk : ∀ v H2 T, Ex H1 H2 → IsM X.K H2 v m T → New H1 T → Q v H2) :
    ∀ x dx, H1 x = none → H1 dx = none → dx ≠ x → spX X.K Fx (.ref x :: vs) (upd (upd H1 dx (.own x)) x (.ins C dx [])) (fun v H2 => v = .non ∧ Q (.ref x) H2) E := fun x dx nx ndx nex => by
  obtain ⟨y, h1, h2⟩ := R.bind_ok h
  obtain ⟨r0, m'⟩ := y
  have e0 : Ex H1 (upd (upd H1 dx (.own x)) x (.ins C dx [])) := ⟨fun b o z => by
    rw [upd_ne (ne_of_none z nx), upd_ne (ne_of_none z ndx)]
    exact z, fun a n => (n.upd (by intro _ _ q; cases q)).upd (by intro _ _ q; cases q)⟩
  have tr : ∀ a ∈ Ts.flatten, ∃ o, H1 a = some o := by
    clear h kk h1 h2 e0
    intro a ha
    induction ars with
    | nil => cases ha
    | cons is nd _ ih =>
      rw [List.flatten_cons] at ha
      rcases List.mem_append.mp ha with z | z
      · exact is.there a z
      · exact ih z
  refine ⟨.ref x, vs, .obj C [], ms, [x], Ts, r0, m', rfl, ?_, by simp, fun a ha => (by rw [List.mem_singleton.mp ha]; exact .some upd_same (by intro _ _ q; cases q)), ars.ex e0, fun a ha hb => ?_, h1, fun v H2 T S0' f is1 is2 nd1 nd2 d1 d2 => ?_⟩
  · exact .obj upd_same rfl .nil
  · obtain ⟨o, z⟩ := tr a ha
    rw [List.mem_singleton.mp hb, nx] at z
    cases z
  · have e2 : Ex H1 H2 := ⟨fun b o z => f.keep b o (e0 b o z) fun y => (by
      rw [List.mem_singleton.mp y, nx] at z
      cases z), fun a n => f.tk.nf a (e0.nf a n)⟩
    cases r0 with
    | im i =>
      cases i with
      | non =>
        cases h2
        obtain ⟨_, z⟩ := is1.im_nil
        cases z
        refine ⟨rfl, kk _ H2 S0' e2 is2 ⟨fun a ha => ?_, nd2⟩⟩
        rcases d2 a ha with z | z
        · rw [List.mem_singleton.mp z]; exact nx
        · exact fresh_back e0 z
      | _ => cases h2
    | _ => cases h2
theorem pd_make {E : XK} (Mk' : Mk X.K C f) (Fn : FnOk X.prog X.w X.K X.mg X.base CX k f fd ps (spX X.K Fx)) (hr : Room (k + 1) X.A) (hg : Gl X x) (hm : X.mg x = some (.ref C)) (hb : Binds X.K fd ps []) (hx : Passes CX X E)
    (ha : PA X (e :: es) (tDA X.K U g)) (hdb : (x == ("__debug__" : Str)) = false := by decide) (he : starEach (e :: es) X.env = (false, eval e X.env) :: starEach es X.env := by rfl) (hpl : (backTo pos (starEach es X.env)).any (·.1) = false := by rfl) :
    PE X (.Call (.Name x p) (e :: es) [] pos) (tD X.K [] fun ρ => g ρ >>= mkM C Fx) := (pe_make (dvs := []) (E := E) Mk' Fn hr hg hm hb .nil hx ha hdb he hpl).imp fun σ H Q h => by
  obtain ⟨ρ, S, m, sl, hm, kk⟩ := h
  obtain ⟨y, h1, h2⟩ := R.bind_ok hm
  refine ⟨ρ, S, y, sl, h1, fun vs H2 Ts e is _ => ?_⟩
  have := mk_ok (E := E) (Q := Q) is h2 fun v H3 T e3 is3 nw => kk v H3 T (e.trans e3) is3 (nw.back e).fr
  intro x dx a b c
  have z := this x dx a b c
  rw [List.append_nil]
  exact z
theorem pd_make0 {E : XK} (Mk' : Mk X.K C f) (Fn : FnOk X.prog X.w X.K X.mg X.base CX k f fd ps (spX X.K Fx)) (hr : Room (k + 1) X.A) (hg : Gl X x) (hm : X.mg x = some (.ref C)) (hb : Binds X.K fd ps []) (hx : Passes CX X E)
    (hdb : (x == ("__debug__" : Str)) = false := by decide) :
    PE X (.Call (.Name x p) [] [] pos) (tD X.K [] fun _ => mkM C Fx []) := (pe_make0 (dvs := []) (E := E) Mk' Fn hr hg hm hb .nil hx hdb).imp fun σ H Q h => by
  obtain ⟨ρ, S, m, sl, hm, kk⟩ := h
  exact mk_ok (E := E) (Q := Q) .nil hm fun v H3 T e3 is3 nw => kk v H3 T e3 is3 nw.fr
end
end DL
/-! DL6: what changes lists, dicts, fields at a place; statements and tests over expressions that change slots; several names at once. -/
namespace DL
open PySem PySem.Spec PyProof.Rows L2

/-! ### a method of a built-in type that changes its object -/
def rMu (K : PySem.W.Frag) (g : M → List M → R (M × M)) : V → List V → Hp → VK → Prop := fun x vs H Q => ∃ n T ms Tm y, IsM K H x n T ∧ IsMs K H vs ms Tm ∧ (T ++ Tm).Nodup ∧ g n ms = .ok y ∧
  ∀ v H' Tr T', Fm T H H' → IsM K H' v y.1 Tr → IsM K H' x y.2 T' → Tr.Nodup → T'.Nodup → (∀ a ∈ Tr, a ∈ T ∧ a ∉ T') → (∀ a ∈ T', a ∈ T ∨ a ∈ Tm ∨ H a = none) → Q v H'
section
variable {X : Cx} {md : List Md} {pos : Pos} {x m : Str} {p apos cpos : Pos} {e o : Expr} {es : List Expr} {U : List Nat} {i : Nat} {pl : List Stp}
theorem pxd_mut {T id : String} {name : Str} {G : Env → R (List M)} {g : M → List M → R (M × M)} (hi : md[i]? = some Md.loc ∨ md[i]? = some Md.io) (pa : PlainAttrs T) (slot : Slot T name id) (hty : typeOf (.builtin id) = pure (.type "method_descriptor")) (hm : MtR X id (rMu X.K g))
    (hT : ∀ H v n Tn ms y, IsM X.K H v n Tn → g n ms = .ok y → tyV X.K T v H) (ho : PE X o (tP i pl)) (ha : PA X (e :: es) (tDO X.K G))
    (hbase : attributeBase o name X.env (eval o X.env) = eval o X.env := by rfl)
    (hfew : ((backTo cpos (starEach (e :: es) X.env)).all (fun x => !x.1) && (backToKw cpos (keywordEach [] X.env)).all (fun x => x.1.isSome)
      && decide ((e :: es).length + ([] : List Keyword).length + (if ([] : List Keyword).isEmpty then 0 else 1) < 30)) = true := by rfl)
    (hline : (apos.endLine == cpos.line) = true := by rfl) (hs : starEach (e :: es) X.env = (false, eval e X.env) :: starEach es X.env := by rfl) (hplain : (backTo cpos (starEach es X.env)).any (·.1) = false := by rfl) :
    PXD X md (.Call (.Attribute o name apos) (e :: es) [] cpos) (fun ρ => G ρ >>= fun ms => plX i pl (fun n => g n ms) ρ) := fun r hK hmd => (pe_bm pa slot hty hm ho ha hbase hfew hline hs hplain).imp fun σ H Q h => by
  obtain ⟨ρ, S, m0, ρ', h1, h2, k⟩ := h
  obtain ⟨ms, h3, h4⟩ := R.bind_ok (show (G ρ >>= fun ms => plX i pl (fun n => g n ms) ρ) = .ok (m0, ρ') from h2)
  unfold plX at h4
  obtain ⟨m, h5, h6⟩ := R.bind_ok h4
  split at h6
  · rename_i n hs
    obtain ⟨y, h7, h8⟩ := R.bind_ok h6
    cases h8
    obtain ⟨v, w, T, e1, e2, e3, e4, e5, e6⟩ := h1.place (by rw [hmd]; exact hi) h5 hs
    refine ⟨v, w, e1, e2, hT H w n T ms y (hK ▸ e3) h7, ρ, S, ms, hK ▸ h1.sl, h3, fun vs H1 Tm ex is nw => ?_⟩
    have nd : (T ++ Tm).Nodup := List.nodup_append.mpr ⟨e4, nw.nd, fun a ha b hb e => by
      subst e
      obtain ⟨o, z⟩ := h1.there i a (e5 a ha).2
      rw [nw.free a hb] at z
      cases z⟩
    refine ⟨n, T, ms, Tm, y, hK ▸ e3.ex ex, is, nd, h7, fun v2 H2 Tr T' f is1 is2 nd1 nd2 d1 d2 => ?_⟩
    have f0 : Fm T H H2 := ⟨fun a o z q => f.keep a o (ex a o z) q, (Ex.tk ex).trans f.tk⟩
    obtain ⟨S', q1, q2⟩ := e6 H2 y.2 T' f0 (hK ▸ is2) nd2 fun a ha => by
      rcases d2 a ha with z | z | z
      · exact .inl z
      · exact .inr (h1.newApart (nw.free a z))
      · exact .inr (h1.newApart (fresh_back ex z))
    refine k v2 H2 S' Tr q1 f0.tk (hK ▸ is1) nd1 fun a ha => ⟨(e5 a (d1 a ha).1).1, fun j hj => ?_⟩
    rcases q2 a j hj with z | ⟨_, z⟩
    · exact (d1 a ha).2 z
    · exact z (d1 a ha).1
  · cases h6
def appM : M → List M → R (M × M)
  | .lst l, [x] => if l.length < sizeLine then .ok (mN, .lst (l ++ [x])) else .no
  | _, _ => .no
def extM : M → List M → R (M × M)
  | .lst l, [.lst k] => if l.length + k.length ≤ sizeLine then .ok (mN, .lst (l ++ k)) else .no
  | _, _ => .no
theorem upd_fm {H : Hp} {a : Addr} {o o' : HO} {T : List Addr} (h : H a = some o) (ho : ∀ xs, o ≠ .tup xs) (ho2 : ∀ b u, o ≠ .frz b u) (ha : a ∈ T) (ho' : NFo o' := by intro _ _ q; cases q) : Fm T H (upd H a o') :=
  ⟨fun b u e n => by rw [upd_ne (show b ≠ a from fun z => n (z ▸ ha))]; exact e, fun b xs e => by rw [upd_ne (fun z => by rw [z, h] at e; exact ho xs (Option.some.inj e))]; exact e, fun b u w e => by rw [upd_ne (fun z => by rw [z, h] at e; exact ho2 u w (Option.some.inj e))]; exact e, fun b n => n.upd ho'⟩
theorem _root_.L2.Rd.live {H : Hp} {a : Addr} {u : HO} (h : Rd H a u) (n : NF H a) : H a = some u := h.elim id fun ⟨o, h⟩ => absurd h (n o u)
theorem IsMs.upd {K : PySem.W.Frag} {H : Hp} {a : Addr} {o o' : HO} {T : List Addr} {vs : List V} {l : List M} (h : H a = some o) (ho : ∀ xs, o ≠ .tup xs) (ho2 : ∀ b u, o ≠ .frz b u) (ha : a ∉ T) (is : IsMs K H vs l T) (ho' : NFo o' := by intro _ _ q; cases q) : IsMs K (upd H a o') vs l T :=
  is.keep (upd_fm (T := [a]) h ho ho2 (by simp) ho').tk fun b hb u e => by rw [upd_ne (show b ≠ a from fun z => ha (z ▸ hb))]; exact e
theorem IsM.upd {K : PySem.W.Frag} {H : Hp} {a : Addr} {o o' : HO} {T : List Addr} {v : V} {l : M} (h : H a = some o) (ho : ∀ xs, o ≠ .tup xs) (ho2 : ∀ b u, o ≠ .frz b u) (ha : a ∉ T) (is : IsM K H v l T) (ho' : NFo o' := by intro _ _ q; cases q) : IsM K (upd H a o') v l T :=
  is.keep (upd_fm (T := [a]) h ho ho2 (by simp) ho').tk fun b hb u e => by rw [upd_ne (show b ≠ a from fun z => ha (z ▸ hb))]; exact e
theorem mu_append : MtR X "list.append" (rMu X.K appM) := fun pins s σ H x vs v us Q I rx rv h => by
  refine mt_append pins s σ H x vs v us Q I rx rv ?_
  obtain ⟨n, T, ms, Tm, y, is, iss, nd, hg, k⟩ := h
  unfold appM at hg
  split at hg
  · rename_i l z
    split at hg
    · rename_i hl
      cases hg
      cases is with
      | lst ha r =>
        rename_i a xs T
        cases iss with
        | cons i1 i2 =>
          cases i2
          rename_i w Tz
          refine ⟨a, xs, w, rfl, rfl, ha, by rw [r.length]; exact hl, ?_⟩
          simp only [List.append_nil] at nd k
          have nd' := List.nodup_cons.mp (show (a :: (T ++ Tz)).Nodup from nd)
          have nT : a ∉ T := fun q => nd'.1 (List.mem_append_left _ q)
          have nz : a ∉ Tz := fun q => nd'.1 (List.mem_append_right _ q)
          refine k .non (L2.upd H a (.lst (xs ++ [w]))) [] (a :: (T ++ (Tz ++ []))) (upd_fm ha (fun _ q => nomatch q) (fun _ _ q => nomatch q) List.mem_cons_self) (.im .non) (.lst upd_same (IsMs.append (r.upd ha (fun _ q => nomatch q) (fun _ _ q => nomatch q) nT) (.cons (i1.upd ha (fun _ q => nomatch q) (fun _ _ q => nomatch q) nz) .nil))) List.nodup_nil (by simpa using nd) (fun _ q => nomatch q) fun b hb => ?_
          rcases List.mem_cons.mp hb with q | q
          · exact .inl (q ▸ List.mem_cons_self)
          · rw [List.append_nil] at q
            rcases List.mem_append.mp q with q | q
            · exact .inl (List.mem_cons_of_mem _ q)
            · exact .inr (.inl q)
    · cases hg
  · cases hg
theorem mu_extend : MtR X "list.extend" (rMu X.K extM) := fun pins s σ H x vs v us Q I rx rv h => by
  refine mt_extend pins s σ H x vs v us Q I rx rv ?_
  obtain ⟨n, T, ms, Tm, y, is, iss, nd, hg, k⟩ := h
  unfold extM at hg
  split at hg
  · rename_i l z
    split at hg
    · rename_i hl
      cases hg
      cases is with
      | lst ha r =>
        rename_i a xs T
        cases iss with
        | cons i1 i2 =>
          cases i2
          cases i1 with
          | lst hb r2 =>
            rename_i b zs Tz
            refine ⟨a, b, xs, zs, rfl, rfl, ha, hb, by rw [r.length, r2.length]; exact hl, ?_⟩
            simp only [List.append_nil] at nd k
            have nd' := List.nodup_cons.mp (show (a :: (T ++ (b :: Tz))).Nodup from nd)
            have nT : a ∉ T := fun q => nd'.1 (List.mem_append_left _ q)
            have nz : a ∉ Tz := fun q => nd'.1 (List.mem_append_right _ (List.mem_cons_of_mem _ q))
            have ndd := List.nodup_append.mp nd'.2
            refine k .non (L2.upd H a (.lst (xs ++ zs))) [] (a :: (T ++ Tz)) (upd_fm ha (fun _ q => nomatch q) (fun _ _ q => nomatch q) List.mem_cons_self) (.im .non) (.lst upd_same (IsMs.append (r.upd ha (fun _ q => nomatch q) (fun _ _ q => nomatch q) nT) (r2.upd ha (fun _ q => nomatch q) (fun _ _ q => nomatch q) nz))) List.nodup_nil ?_ (fun _ q => nomatch q) fun c hc => ?_
            · refine List.nodup_cons.mpr ⟨fun q => ?_, List.nodup_append.mpr ⟨ndd.1, (List.nodup_cons.mp ndd.2.1).2, fun c hc d hd e => ndd.2.2 c hc d (List.mem_cons_of_mem _ hd) e⟩⟩
              rcases List.mem_append.mp q with q | q
              · exact nT q
              · exact nz q
            · rcases List.mem_cons.mp hc with q | q
              · exact .inl (q ▸ List.mem_cons_self)
              · rcases List.mem_append.mp q with q | q
                · exact .inl (List.mem_cons_of_mem _ q)
                · exact .inr (.inl (List.mem_cons_of_mem _ q))
    · cases hg
  · cases hg
theorem ty_app : ∀ H v n Tn ms y, IsM X.K H v n Tn → appM n ms = .ok y → tyV X.K "list" v H := fun H v n Tn ms y is h => by
  unfold appM at h
  split at h
  · cases is with
    | lst ha r => exact .inl ⟨rfl, _, .of ha⟩
  · cases h
theorem ty_ext : ∀ H v n Tn ms y, IsM X.K H v n Tn → extM n ms = .ok y → tyV X.K "list" v H := fun H v n Tn ms y is h => by
  unfold extM at h
  split at h
  · cases is with
    | lst ha r => exact .inl ⟨rfl, _, .of ha⟩
  · cases h
theorem pxd_append {G : Env → R (List M)} (hi : md[i]? = some Md.loc ∨ md[i]? = some Md.io) (ho : PE X o (tP i pl)) (ha : PA X [e] (tDO X.K G))
    (hbase : attributeBase o "append" X.env (eval o X.env) = eval o X.env := by rfl)
    (hfew : ((backTo cpos (starEach [e] X.env)).all (fun x => !x.1) && (backToKw cpos (keywordEach [] X.env)).all (fun x => x.1.isSome)
      && decide ([e].length + ([] : List Keyword).length + (if ([] : List Keyword).isEmpty then 0 else 1) < 30)) = true := by rfl)
    (hline : (apos.endLine == cpos.line) = true := by rfl) (hs : starEach [e] X.env = (false, eval e X.env) :: starEach [] X.env := by rfl) (hplain : (backTo cpos (starEach [] X.env)).any (·.1) = false := by rfl) :
    PXD X md (.Call (.Attribute o "append" apos) [e] [] cpos) (fun ρ => G ρ >>= fun ms => plX i pl (fun n => appM n ms) ρ) :=
  pxd_mut hi PySem.F.plainAttrs_list PySem.F.slot_list_append PySem.F.type_list_append mu_append ty_app ho ha hbase hfew hline hs hplain
theorem pxd_extend {G : Env → R (List M)} (hi : md[i]? = some Md.loc ∨ md[i]? = some Md.io) (ho : PE X o (tP i pl)) (ha : PA X [e] (tDO X.K G))
    (hbase : attributeBase o "extend" X.env (eval o X.env) = eval o X.env := by rfl)
    (hfew : ((backTo cpos (starEach [e] X.env)).all (fun x => !x.1) && (backToKw cpos (keywordEach [] X.env)).all (fun x => x.1.isSome)
      && decide ([e].length + ([] : List Keyword).length + (if ([] : List Keyword).isEmpty then 0 else 1) < 30)) = true := by rfl)
    (hline : (apos.endLine == cpos.line) = true := by rfl) (hs : starEach [e] X.env = (false, eval e X.env) :: starEach [] X.env := by rfl) (hplain : (backTo cpos (starEach [] X.env)).any (·.1) = false := by rfl) :
    PXD X md (.Call (.Attribute o "extend" apos) [e] [] cpos) (fun ρ => G ρ >>= fun ms => plX i pl (fun n => extM n ms) ρ) :=
  pxd_mut hi PySem.F.plainAttrs_list PySem.F.slot_list_extend PySem.F.type_list_extend mu_extend ty_ext ho ha hbase hfew hline hs hplain

/-! ### a store into a place -/
/-- what a store of a new value x into the object n at a place owes: n' behind it -/
theorem Rel.store {r : Rn} {H H1 : Hp} {σ : L2.St} {ρ : Env} {S : Nat → List Addr} {n n' m mx : M} {Tx : List Addr} {vx : V} (h : Rel r H σ ρ S) (hi : r.md[i]? = some Md.loc ∨ r.md[i]? = some Md.io) (hm : getV ρ i = .ok m) (hs : subM m pl = some n) (ex : Ex H H1) (ndx : Tx.Nodup) (nw : ∀ a ∈ Tx, r.Own a ∧ ∀ j, a ∉ S j) (isx : IsM r.K H1 vx mx Tx) :
    ∃ v w T, σ[i]? = some (some v) ∧ atV H1 v pl = some w ∧ IsM r.K H1 w n T ∧ (T ++ Tx).Nodup ∧
      ∀ H' T', Fm T H1 H' → IsM r.K H' w n' T' → T'.Nodup → (∀ a ∈ T', a ∈ T ∨ a ∈ Tx ∨ H1 a = none) → ∃ S', Rel r H' σ (ρ.set i (some (updM m pl n'))) S' := by
  obtain ⟨v, w, T, e1, e2, e3, e4, e5, e6⟩ := h.place hi hm hs
  obtain ⟨v', w', T2, f1, f2, _⟩ := (h.ex ex).place hi hm hs
  rw [e1] at f1
  cases f1
  have : w' = w := by
    have mono : ∀ (pl : List Stp) (v w : V), atV H v pl = some w → atV H1 v pl = some w := fun pl => by
      induction pl with
      | nil => intro v w h; exact h
      | cons st pl ih =>
        intro v w h
        cases st with
        | fld C f =>
          cases v with
          | ref a =>
            simp only [atV] at h ⊢
            split at h
            · rename_i C' dx vs e
              rw [ex a _ e]
              simp only
              split at h
              · rename_i hc
                rw [if_pos hc]
                split at h
                · rename_i u e2
                  exact ih u w h
                · cases h
              · cases h
            · cases h
          | _ => simp [atV] at h
    have q := mono pl v w e2
    rw [f2] at q
    exact Option.some.inj q
  subst this
  refine ⟨v, w', T, e1, f2, e3.ex ex, List.nodup_append.mpr ⟨e4, ndx, fun a ha b hb e => ?_⟩, fun H' T' f is nd d => ?_⟩
  · subst e
    exact (nw a hb).2 i (e5 a ha).2
  · obtain ⟨S', q1, _⟩ := e6 H' n' T' ⟨fun a o z q => f.keep a o (ex a o z) q, (Ex.tk ex).trans f.tk⟩ is nd fun a ha => by
      rcases d a ha with z | z | z
      · exact .inl z
      · exact .inr (nw a z)
      · exact .inr (h.newApart (fresh_back ex z))
    exact ⟨S', q1⟩
def putM (f : Str) (v : M) : List (Str × M) → List (Str × M)
  | [] => [(f, v)]
  | (g, x) :: r => if g = f then (g, v) :: r else (g, x) :: putM f v r
def plS (i : Nat) (pl : List Stp) (f : Env → R M) (F : M → M → R M) : Env → R Fl := fun ρ => f ρ >>= fun x => getV ρ i >>= fun m => match subM m pl with
  | some n => F n x >>= fun n' => .ok (.nx (ρ.set i (some (updM m pl n'))))
  | none => .no
/-- o.f = e -/
def fldS (C : Addr) (fn : Str) : M → M → R M
  | .obj C' fs, x => if C' = C then (if fs.length < 1000 then .ok (.obj C' (putM fn x fs)) else .no) else .no
  | _, _ => .no
theorem putM_is {K : PySem.W.Frag} {H : Hp} {f : Str} {w : V} {x : M} {Tx : List Addr} (isx : IsM K H w x Tx) : ∀ {vs : List (Str × V)} {fs : List (Str × M)} {T : List Addr}, vs.map (·.1) = fs.map (·.1) → IsMs K H (vs.map (·.2)) (fs.map (·.2)) T → (T ++ Tx).Nodup →
    (putF f w vs).map (·.1) = (putM f x fs).map (·.1) ∧ ∃ T', IsMs K H ((putF f w vs).map (·.2)) ((putM f x fs).map (·.2)) T' ∧ T'.Nodup ∧ ∀ a ∈ T', a ∈ T ∨ a ∈ Tx
  | [], [], T, _, is, nd => by
    cases is
    exact ⟨rfl, Tx ++ [], .cons isx .nil, by simpa using nd, fun a ha => .inr (by simpa using ha)⟩
  | [], _ :: _, _, h, _, _ => by simp at h
  | _ :: _, [], _, h, _, _ => by simp at h
  | (g, y) :: vs, (g', z) :: fs, T, h, is, nd => by
    simp only [List.map_cons, List.cons.injEq] at h
    obtain ⟨rfl, h⟩ := h
    simp only [List.map_cons] at is
    cases is with
    | cons i1 i2 =>
      rename_i T1 T2
      rw [List.append_assoc] at nd
      have ndd := List.nodup_append.mp nd
      have nd2 := List.nodup_append.mp ndd.2.1
      unfold putF putM
      by_cases e : g = f
      · rw [if_pos e, if_pos e]
        refine ⟨by simp [h], Tx ++ T2, .cons isx i2, List.nodup_append.mpr ⟨nd2.2.1, nd2.1, fun a ha b hb q => nd2.2.2 b hb a ha q.symm⟩, fun a ha => ?_⟩
        rcases List.mem_append.mp ha with q | q
        · exact .inr q
        · exact .inl (List.mem_append_right _ q)
      · rw [if_neg e, if_neg e]
        obtain ⟨q1, T', q2, q3, q4⟩ := putM_is isx h i2 ndd.2.1
        refine ⟨by simp [q1], T1 ++ T', .cons i1 q2, List.nodup_append.mpr ⟨ndd.1, q3, fun a ha b hb q => ?_⟩, fun a ha => ?_⟩
        · subst q
          rcases q4 a hb with z | z
          · exact ndd.2.2 a ha a (List.mem_append_left _ z) rfl
          · exact ndd.2.2 a ha a (List.mem_append_right _ z) rfl
        · rcases List.mem_append.mp ha with q | q
          · exact .inl (List.mem_append_left _ q)
          · exact (q4 a q).imp (fun y => List.mem_append_right _ y) id
theorem psd_fld {C : Addr} {fn : Str} {f : Env → R M} {pos' : Pos} (hi : md[i]? = some Md.loc ∨ md[i]? = some Md.io) (ho : PE X o (tP i pl)) (c : Cls X.K C) (n : NoAttr X.K C fn) (hv : PE X e (tD X.K [] f)) (hs : swapsWith e (some (.Attribute o fn pos')) pos.line X.env = pure false := by rfl) :
    PSD X md (.Assign [.Attribute o fn pos'] e pos) (plS i pl f (fldS C fn)) := fun r hK hmd => (ps_fld ho hv hs).imp fun D σ H h => by
  obtain ⟨ρ, S, h1, h2⟩ := h
  unfold plS at h2
  cases q : f ρ with
  | exc c l => rw [q] at h2; exact h2.elim
  | no => rw [q] at h2; exact h2.elim
  | ok x =>
    rw [q, R.ok_bind] at h2
    cases q1 : getV ρ i with
    | exc c l => rw [q1] at h2; exact h2.elim
    | no => rw [q1] at h2; exact h2.elim
    | ok m =>
      rw [q1, R.ok_bind] at h2
      split at h2
      · rename_i n0 hs0
        cases q2 : fldS C fn n0 x with
        | exc c l => rw [q2] at h2; exact h2.elim
        | no => rw [q2] at h2; exact h2.elim
        | ok n' =>
          rw [q2] at h2
          refine ⟨ρ, S, x, hK ▸ h1.sl, q, fun vx H1 Tx ex isx fr => ?_⟩
          obtain ⟨v, w, T, e1, e2, e3, e4, e5⟩ := h1.store (n' := n') (by rw [hmd]; exact hi) q1 hs0 ex fr.nd (fun a ha => h1.newApart (fr.new.free a ha)) (hK ▸ isx)
          refine ⟨v, w, e1, e2, ?_⟩
          cases e3 with
          | obj ha hn hr =>
            rename_i a C' dx vs fs T
            simp only [fldS] at q2
            by_cases hC : C' = C
            case neg => rw [if_neg hC] at q2; cases q2
            subst hC
            rw [if_pos rfl] at q2
            split at q2
            · rename_i hlen
              cases q2
              have hl : vs.length < 1000 := by
                have := congrArg List.length hn
                simp only [List.length_map] at this
                omega
              refine ⟨a, C', dx, vs, rfl, ha, c, n, hl, ?_⟩
              have nd' := List.nodup_cons.mp (show (a :: (T ++ Tx)).Nodup from e4)
              have nT : a ∉ T := fun z => nd'.1 (List.mem_append_left _ z)
              have nx : a ∉ Tx := fun z => nd'.1 (List.mem_append_right _ z)
              obtain ⟨g1, T', g2, g3, g4⟩ := putM_is (f := fn) ((hK ▸ isx : IsM r.K H1 vx x Tx).upd (o' := .ins C' dx (putF fn vx vs)) ha (fun _ q => nomatch q) (fun _ _ q => nomatch q) nx) hn (hr.upd ha (fun _ q => nomatch q) (fun _ _ q => nomatch q) nT) nd'.2
              obtain ⟨S', q⟩ := e5 (L2.upd H1 a (.ins C' dx (putF fn vx vs))) (a :: T') (upd_fm ha (fun _ q => nomatch q) (fun _ _ q => nomatch q) List.mem_cons_self) (.obj upd_same g1 g2) (List.nodup_cons.mpr ⟨fun z => (g4 a z).elim nT nx, g3⟩) fun b hb => by
                rcases List.mem_cons.mp hb with z | z
                · exact .inl (z ▸ List.mem_cons_self)
                · rcases g4 b z with z | z
                  · exact .inl (List.mem_cons_of_mem _ z)
                  · exact .inr (.inl z)
              exact h2 σ _ S' q
            · cases q2
          | _ => cases q2
      · exact h2.elim
end
end DL
/-! DL7: fields as targets, several names at once, list and dict stores, statements over expressions that change slots, a def's body. -/
namespace DL
open PySem PySem.Spec PyProof.Rows L2

section
variable {X : Cx} {md : List Md} {pos : Pos} {x m : Str} {p apos cpos : Pos} {e o : Expr} {es : List Expr} {U : List Nat} {i : Nat} {pl : List Stp}

/-! ### o.f as a target -/
def gFld (K : PySem.W.Frag) (to : TE) (f : Str) : TG := fun v σ H Q => to σ H fun x H1 => ∃ a C dx fs, x = .ref a ∧ H1 a = some (.ins C dx fs) ∧ Cls K C ∧ NoAttr K C f ∧ fs.length < 1000 ∧ Q σ (L2.upd H1 a (.ins C dx (putF f v fs)))
theorem pg_fld {f : Str} {to : TE} (ho : PE X o to) : PG X (.Attribute o f pos) (gFld X.K to f) := ⟨fun pins s σ H v u Q I r h => by
  show wpAny _ _ (do
    let ov ← holding [u] (eval o X.env)
    standAt pos.atName
    holding [u, ov] (setAttr ov f u)
    release [u, ov] []) _ _ _
  refine wpAny_bind (wpAny_holding (thn (ho.run pins s σ H _ I h) fun ov s1 ⟨y, H1, I1, r1, a, C, dx, fs, ey, ha, hc, hn, hl, q⟩ => ?_))
  subst ey
  obtain rfl : ov = Value.ref a := r1
  refine wpAny_bind (wpAny_standAt (wpAny_bind (wpAny_holding (setattr_ok I1 ha hc hn hl r fun s2 I2 => ?_))))
  exact wpAny_release ⟨σ, _, I2, q⟩⟩
theorem fld_store {C : Addr} {fn : Str} {r : Rn} {H H1 : Hp} {σ : L2.St} {ρ : Env} {S : Nat → List Addr} {n n' m mx : M} {Tx : List Addr} {vx : V} {P : L2.St → Hp → Prop} (h : Rel r H σ ρ S) (hi : r.md[i]? = some Md.loc ∨ r.md[i]? = some Md.io) (hm : getV ρ i = .ok m) (hs : subM m pl = some n) (ex : Ex H H1) (ndx : Tx.Nodup) (nw : ∀ a ∈ Tx, r.Own a ∧ ∀ j, a ∉ S j) (isx : IsM r.K H1 vx mx Tx)
    (c : Cls r.K C) (nn : NoAttr r.K C fn) (q2 : fldS C fn n mx = .ok n') (kk : ∀ H' S', Rel r H' σ (ρ.set i (some (updM m pl n'))) S' → P σ H') :
    ∃ v w, σ[i]? = some (some v) ∧ atV H1 v pl = some w ∧ ∃ a C dx fs, w = .ref a ∧ H1 a = some (.ins C dx fs) ∧ Cls r.K C ∧ NoAttr r.K C fn ∧ fs.length < 1000 ∧ P σ (L2.upd H1 a (.ins C dx (putF fn vx fs))) := by
  obtain ⟨v, w, T, e1, e2, e3, e4, e5⟩ := h.store (n' := n') hi hm hs ex ndx nw isx
  refine ⟨v, w, e1, e2, ?_⟩
  cases e3 with
  | obj ha hn hr =>
    rename_i a C' dx vs fs T
    simp only [fldS] at q2
    by_cases hC : C' = C
    case neg => rw [if_neg hC] at q2; cases q2
    subst hC
    rw [if_pos rfl] at q2
    split at q2
    · rename_i hlen
      cases q2
      have hl : vs.length < 1000 := by
        have := congrArg List.length hn
        simp only [List.length_map] at this
        omega
      refine ⟨a, C', dx, vs, rfl, ha, c, nn, hl, ?_⟩
      have nd' := List.nodup_cons.mp (show (a :: (T ++ Tx)).Nodup from e4)
      have nT : a ∉ T := fun z => nd'.1 (List.mem_append_left _ z)
      have nx : a ∉ Tx := fun z => nd'.1 (List.mem_append_right _ z)
      obtain ⟨g1, T', g2, g3, g4⟩ := putM_is (f := fn) (isx.upd (o' := .ins C' dx (putF fn vx vs)) ha (fun _ q => nomatch q) (fun _ _ q => nomatch q) nx) hn (hr.upd ha (fun _ q => nomatch q) (fun _ _ q => nomatch q) nT) nd'.2
      obtain ⟨S', q⟩ := e5 (L2.upd H1 a (.ins C' dx (putF fn vx vs))) (a :: T') (upd_fm ha (fun _ q => nomatch q) (fun _ _ q => nomatch q) List.mem_cons_self) (.obj upd_same g1 g2) (List.nodup_cons.mpr ⟨fun z => (g4 a z).elim nT nx, g3⟩) fun b hb => by
        rcases List.mem_cons.mp hb with z | z
        · exact .inl (z ▸ List.mem_cons_self)
        · rcases g4 b z with z | z
          · exact .inl (List.mem_cons_of_mem _ z)
          · exact .inr (.inl z)
      exact kk _ S' q
    · cases q2
  | _ => cases q2
def gFldM (i : Nat) (pl : List Stp) (C : Addr) (fn : Str) : M → Env → R Env := fun x ρ => getV ρ i >>= fun m => match subM m pl with
  | some n => fldS C fn n x >>= fun n' => .ok (ρ.set i (some (updM m pl n')))
  | none => .no
end
/-- several targets, the footprints of what is left told -/
def Left (r : Rn) (S : Nat → List Addr) (T : List Addr) : Prop := ∀ a ∈ T, r.Own a ∧ ∀ j, a ∉ S j

/-! ### a, b = x, y; a, b, c = x, y, z: plain local names -/
def parS (js : List Nat) (f : Env → R (List M)) : Env → R Fl := fun ρ => f ρ >>= fun ms => if ms.length = js.length then .ok (.nx ((js.zip ms).foldl (fun ρ q => ρ.set q.1 (some q.2)) ρ)) else .no
section
variable {X : Cx} {md : List Md} {pos : Pos}
theorem psd_par2 {i j : Nat} {x y : Str} {a b : Expr} {f : Env → R (List M)} {px py pt : Pos} {kt k2 pt2} (hc : X.calm = true) (hN : X.N.Nodup) (hi : X.N[i]? = some x) (hj : X.N[j]? = some y) (hij : i ≠ j)
    (hx : X.env.scope.names.lookup x = some .local) (hy : X.env.scope.names.lookup y = some .local) (mi : md[i]? = some Md.loc ∨ md[i]? = some Md.any) (mj : md[j]? = some Md.loc ∨ md[j]? = some Md.any) (ha : PA X [a, b] (tDO X.K f))
    (hw : swappedStores [.Tuple [.Name x px, .Name y py] kt pt] (.Tuple [a, b] k2 pt2) X.env = pure (some [x, y]))
    (hs : swapsWithSole [.Tuple [.Name x px, .Name y py] kt pt] (.Tuple [a, b] k2 pt2) pos.line X.env = pure false := by rfl) :
    PSD X md (.Assign [.Tuple [.Name x px, .Name y py] kt pt] (.Tuple [a, b] k2 pt2) pos) (parS [i, j] f) := fun r hK hmd => (ps_par hc hN hi hj hij hx hy ha hw hs).imp fun D σ H h => by
  obtain ⟨ρ, S, h1, h2⟩ := h
  unfold parS at h2
  cases q : f ρ with
  | exc c l => rw [q] at h2; exact h2.elim
  | no => rw [q] at h2; exact h2.elim
  | ok ms =>
    rw [q, R.ok_bind] at h2
    refine ⟨ρ, S, ms, hK ▸ h1.sl, q, fun vs H1 T e is nw => ?_⟩
    cases is with
    | nil => exact h2.elim
    | cons i1 is =>
      cases is with
      | nil => exact h2.elim
      | cons i2 is =>
        cases is with
        | cons _ _ =>
          split at h2
          · rename_i q; simp at q
          · exact h2.elim
        | nil =>
          rename_i v m T1 w n T2
          refine ⟨v, w, rfl, ?_⟩
          have nd := List.nodup_append.mp nw.nd
          have r1 := (h1.ex e).put (i := i) (by rw [hmd]; exact mi) (hK ▸ i1) nd.1 (fun _ a ha => h1.new (nw.free a (List.mem_append_left _ ha))) (fun a ha _ k _ => (h1.newApart (nw.free a (List.mem_append_left _ ha))).2 k)
          have r2 := r1.put (i := j) (by rw [hmd]; exact mj) (hK ▸ i2) (by simpa using (List.nodup_append.mp nd.2.1).1) (fun _ a ha => h1.new (nw.free a (List.mem_append_right _ (List.mem_append_left _ ha)))) (fun a ha _ k _ hk => by
            rcases updS_sub hk with z | z
            · exact (h1.newApart (nw.free a (List.mem_append_right _ (List.mem_append_left _ ha)))).2 k z
            · exact nd.2.2 a z a (List.mem_append_left _ ha) rfl)
          exact h2 _ _ _ r2

/-- three names -/
def tPar3 (i j k : Nat) (ta : TA) : TS := fun D σ H => ta σ H fun vs H1 => ∃ v w z, vs = [v, w, z] ∧ D.nx (((σ.set i (some v)).set j (some w)).set k (some z)) H1
theorem ps_par3 {i j k : Nat} {x y z : Str} {a b c : Expr} {ta : TA} {px py pz pt : Pos} {kt k2 pt2} (hc : X.calm = true) (hN : X.N.Nodup) (hi : X.N[i]? = some x) (hj : X.N[j]? = some y) (hk : X.N[k]? = some z) (hij : i ≠ j) (hik : i ≠ k) (hjk : j ≠ k)
    (hx : X.env.scope.names.lookup x = some .local) (hy : X.env.scope.names.lookup y = some .local) (hz : X.env.scope.names.lookup z = some .local) (ha : PA X [a, b, c] ta)
    (hw : swappedStores [.Tuple [.Name x px, .Name y py, .Name z pz] kt pt] (.Tuple [a, b, c] k2 pt2) X.env = pure (some [x, y, z]))
    (hs : swapsWithSole [.Tuple [.Name x px, .Name y py, .Name z pz] kt pt] (.Tuple [a, b, c] k2 pt2) pos.line X.env = pure false := by rfl) :
    PS X (.Assign [.Tuple [.Name x px, .Name y py, .Name z pz] kt pt] (.Tuple [a, b, c] k2 pt2) pos) (tPar3 i j k ta) := by
  refine ⟨fun pins s σ H D I h => ?_⟩
  rw [exec_Assign_arm]
  refine wpAny_bind (wpAny_standAt ?_)
  rw [hs]
  refine wpAny_bind (wpAny_pure ?_)
  rw [if_neg (by decide)]
  refine wpAny_bind (Tuple_ (thn (ha.run _ pins s σ H _ I h) fun us s1 ⟨vs, H1, I1, r1, q1⟩ => ?_))
  obtain ⟨v, w, v3, e1, q1⟩ := q1
  subst e1
  obtain ⟨u1, u2, u3, rfl, rv, rw', rz⟩ : ∃ u1 u2 u3, us = [u1, u2, u3] ∧ RelV v u1 ∧ RelV w u2 ∧ RelV v3 u3 := by
    cases r1 with
    | cons p q =>
      cases q with
      | cons p' q' =>
        cases q' with
        | cons p2 q2 =>
          cases q2
          exact ⟨_, _, _, rfl, p, p', p2⟩
  refine wpAny_newObj_type ?_ (by show 3 ≤ sizeLine; decide)
  have I2 : Inv X pins σ H1 { s1 with heap := s1.heap.push { cls := .type "tuple", data := .seq [u1, u2, u3].toArray } } := I1.kept (t' := s1.toks) fun b o e => Heap.get?_push_of_some _ e
  rw [hw]
  refine wpAny_bind (wpAny_pure ?_)
  show wpAny (model X.prog X.w) X.A (do rule "assign.swapped-stores"; let items ← unpackItems (.ref s1.heap.objs.size) 3 none; assignInOrder [fun v => bindName X.env z v, fun v => bindName X.env y v, fun v => bindName X.env x v] items.reverse; pure Flow.next) _ _ _
  refine wpAny_bind (wpAny_rule (wpAny_bind (unpackItems_tuple (items := #[u1, u2, u3]) (I.ok.hd hc) (IsTup.new s1.heap _) fun h' hx' => ?_)))
  have I3 := I2.kept (h' := h') (t' := s1.toks) fun b o e => hx' b o (Nat.ne_of_lt (Heap.lt_size e)) e
  show wpAny _ _ (assignInOrder [fun v => bindName X.env z v, fun v => bindName X.env y v, fun v => bindName X.env x v] [u3, u2, u1] >>= fun _ => pure Flow.next) _ _ _
  refine wpAny_bind (assignInOrder_cons (wpAny_bindName (store_ok I3 hN hk (.inl hz) rz (fun s2 I4 => ?_) (.inr hz))))
  refine assignInOrder_cons (wpAny_bindName (store_ok I4 hN hj (.inl hy) rw' (fun s3 I5 => ?_) (.inr hy)))
  refine assignInOrder_cons (wpAny_bindName (store_ok I5 hN hi (.inl hx) rv (fun s4 I6 => assignInOrder_nil (wpAny_pure ?_)) (.inr hx)))
  refine ⟨_, H1, I6, ?_⟩
  have e : ((σ.set k (some v3)).set j (some w)).set i (some v) = (((σ.set i (some v)).set j (some w)).set k (some v3)) := by
    rw [List.set_comm _ _ (Ne.symm hjk), List.set_comm _ _ (Ne.symm hik), List.set_comm _ _ (Ne.symm hij)]
  rw [e]
  exact q1
theorem psd_par3 {i j k : Nat} {x y z : Str} {a b c : Expr} {f : Env → R (List M)} {px py pz pt : Pos} {kt k2 pt2} (hc : X.calm = true) (hN : X.N.Nodup) (hi : X.N[i]? = some x) (hj : X.N[j]? = some y) (hk : X.N[k]? = some z) (hij : i ≠ j) (hik : i ≠ k) (hjk : j ≠ k)
    (hx : X.env.scope.names.lookup x = some .local) (hy : X.env.scope.names.lookup y = some .local) (hz : X.env.scope.names.lookup z = some .local) (mi : md[i]? = some Md.loc ∨ md[i]? = some Md.any) (mj : md[j]? = some Md.loc ∨ md[j]? = some Md.any) (mk : md[k]? = some Md.loc ∨ md[k]? = some Md.any) (ha : PA X [a, b, c] (tDO X.K f))
    (hw : swappedStores [.Tuple [.Name x px, .Name y py, .Name z pz] kt pt] (.Tuple [a, b, c] k2 pt2) X.env = pure (some [x, y, z]))
    (hs : swapsWithSole [.Tuple [.Name x px, .Name y py, .Name z pz] kt pt] (.Tuple [a, b, c] k2 pt2) pos.line X.env = pure false := by rfl) :
    PSD X md (.Assign [.Tuple [.Name x px, .Name y py, .Name z pz] kt pt] (.Tuple [a, b, c] k2 pt2) pos) (parS [i, j, k] f) := fun r hK hmd => (ps_par3 hc hN hi hj hk hij hik hjk hx hy hz ha hw hs).imp fun D σ H h => by
  obtain ⟨ρ, S, h1, h2⟩ := h
  unfold parS at h2
  cases q : f ρ with
  | exc c l => rw [q] at h2; exact h2.elim
  | no => rw [q] at h2; exact h2.elim
  | ok ms =>
    rw [q, R.ok_bind] at h2
    refine ⟨ρ, S, ms, hK ▸ h1.sl, q, fun vs H1 T e is nw => ?_⟩
    cases is with
    | nil => exact h2.elim
    | cons i1 is =>
      cases is with
      | nil => exact h2.elim
      | cons i2 is =>
        cases is with
        | nil => exact h2.elim
        | cons i3 is =>
          cases is with
          | cons _ _ =>
            split at h2
            · rename_i q; simp at q
            · exact h2.elim
          | nil =>
            rename_i v m T1 w n T2 v3 n3 T3
            refine ⟨v, w, v3, rfl, ?_⟩
            have nd := List.nodup_append.mp nw.nd
            have nd2 := List.nodup_append.mp nd.2.1
            have m2 : ∀ a ∈ T2, a ∈ T1 ++ (T2 ++ (T3 ++ [])) := fun a ha => List.mem_append_right _ (List.mem_append_left _ ha)
            have m3 : ∀ a ∈ T3, a ∈ T1 ++ (T2 ++ (T3 ++ [])) := fun a ha => List.mem_append_right _ (List.mem_append_right _ (List.mem_append_left _ ha))
            have r1 := (h1.ex e).put (i := i) (by rw [hmd]; exact mi) (hK ▸ i1) nd.1 (fun _ a ha => h1.new (nw.free a (List.mem_append_left _ ha))) (fun a ha _ k _ => (h1.newApart (nw.free a (List.mem_append_left _ ha))).2 k)
            have r2 := r1.put (i := j) (by rw [hmd]; exact mj) (hK ▸ i2) nd2.1 (fun _ a ha => h1.new (nw.free a (m2 a ha))) (fun a ha _ k _ hk => by
              rcases updS_sub hk with z | z
              · exact (h1.newApart (nw.free a (m2 a ha))).2 k z
              · exact nd.2.2 a z a (List.mem_append_left _ ha) rfl)
            have r3 := r2.put (i := k) (by rw [hmd]; exact mk) (hK ▸ i3) (by simpa using (List.nodup_append.mp nd2.2.1).1) (fun _ a ha => h1.new (nw.free a (m3 a ha))) (fun a ha _ k _ hk => by
              rcases updS_sub hk with z | z
              · rcases updS_sub z with z | z
                · exact (h1.newApart (nw.free a (m3 a ha))).2 k z
                · exact nd.2.2 a z a (List.mem_append_right _ (List.mem_append_left _ ha)) rfl
              · exact nd2.2.2 a z a (List.mem_append_left _ ha) rfl)
            exact h2 _ _ _ r3

/-! ### statements over expressions that change slots -/
def setX (i : Nat) (f : Env → R (M × Env)) : Env → R Fl := fun ρ => f ρ >>= fun x => .ok (.nx (x.2.set i (some x.1)))
def dropX (f : Env → R (M × Env)) : Env → R Fl := fun ρ => f ρ >>= fun x => .ok (.nx x.2)
def retX (f : Env → R (M × Env)) : Env → R Fl := fun ρ => f ρ >>= fun x => .ok (.rt x.1 x.2)
def ifX (c : Env → R (Bool × Env)) (f g : Env → R Fl) : Env → R Fl := fun ρ => c ρ >>= fun b => if b.1 then f b.2 else g b.2
def asgX (g : M → Env → R Env) (f : Env → R (M × Env)) : Env → R Fl := fun ρ => f ρ >>= fun x => g x.1 x.2 >>= fun ρ' => .ok (.nx ρ')
theorem psxd_set {i : Nat} {x : Str} {e : Expr} {f : Env → R (M × Env)} {pos' : Pos} (hN : X.N.Nodup) (hi : X.N[i]? = some x) (hx : Loc X.env.scope x) (hm : md[i]? = some Md.loc ∨ md[i]? = some Md.any) (he : PXD X md e f) (hs : swapsWith e (some (.Name x pos')) pos.line X.env = pure false := by rfl) (hf : X.fn x = true ∨ X.env.scope.names.lookup x = some .local := by first | exact .inl rfl | exact .inr rfl | assumption) :
    PSD X md (.Assign [.Name x pos'] e pos) (setX i f) := fun r hK hmd => (ps_set hN hi hx (he r hK hmd) hs hf).imp fun D σ H h => by
  obtain ⟨ρ, S, h1, h2⟩ := h
  unfold setX at h2
  cases q : f ρ with
  | ok y =>
    obtain ⟨m, ρ'⟩ := y
    rw [q] at h2
    exact ⟨ρ, S, m, ρ', h1, q, fun v H2 S2 T h3 _ is nd d => h2 _ _ _ (h3.put (by rw [hmd]; exact hm) is nd (fun _ a ha => (d a ha).1) fun a ha _ j _ => (d a ha).2 j)⟩
  | exc c l => rw [q] at h2; exact h2.elim
  | no => rw [q] at h2; exact h2.elim
theorem psxd_drop {e : Expr} {f : Env → R (M × Env)} (he : PXD X md e f) (hs : swapsWith e none pos.line X.env = pure false := by rfl) : PSD X md (.Expr e pos) (dropX f) := fun r hK hmd => (ps_expr (he r hK hmd) hs).imp fun D σ H h => by
  obtain ⟨ρ, S, h1, h2⟩ := h
  unfold dropX at h2
  cases q : f ρ with
  | ok y =>
    obtain ⟨m, ρ'⟩ := y
    rw [q] at h2
    exact ⟨ρ, S, m, ρ', h1, q, fun v H2 S2 T h3 _ is nd d => h2 _ _ _ h3⟩
  | exc c l => rw [q] at h2; exact h2.elim
  | no => rw [q] at h2; exact h2.elim
theorem psxd_ret {e : Expr} {f : Env → R (M × Env)} (he : PXD X md e f) : PSD X md (.Return (some e) pos) (retX f) := fun r hK hmd => (ps_ret (he r hK hmd)).imp fun D σ H h => by
  obtain ⟨ρ, S, h1, h2⟩ := h
  unfold retX at h2
  cases q : f ρ with
  | ok y =>
    obtain ⟨m, ρ'⟩ := y
    rw [q] at h2
    exact ⟨ρ, S, m, ρ', h1, q, fun v H2 S2 T h3 _ is nd d => h2 v σ H2 S2 T h3 is ⟨nd, fun a ha => (d a ha).1, fun i _ a ha => (d a ha).2 i⟩⟩
  | exc c l => rw [q] at h2; exact h2.elim
  | no => rw [q] at h2; exact h2.elim
theorem psxd_if {c : Expr} {a b : List Stmt} {gc : Env → R (Bool × Env)} {f g : Env → R Fl} (hc : PXT X md c gc) (ha : PSsD X md a f) (hb : PSsD X md b g) : PSD X md (.If c a b pos) (ifX gc f g) := fun r hK hmd => (ps_if (hc r hK hmd) (ha r hK hmd) (hb r hK hmd)).imp fun D σ H h => by
  obtain ⟨ρ, S, h1, h2⟩ := h
  unfold ifX at h2
  cases q : gc ρ with
  | ok y =>
    obtain ⟨k, ρ'⟩ := y
    rw [q] at h2
    refine ⟨ρ, S, k, ρ', h1, q, fun H2 S2 h3 _ => ?_⟩
    cases k with
    | true => exact ⟨ρ', S2, h3, h2⟩
    | false => exact ⟨ρ', S2, h3, h2⟩
  | exc c l => rw [q] at h2; exact h2.elim
  | no => rw [q] at h2; exact h2.elim
theorem psxd_asg {tg e : Expr} {g : M → Env → R Env} {f : Env → R (M × Env)} (he : PXD X md e f) (hg : PGD X md true tg g) (hs : swapsWithSole [tg] e pos.line X.env = pure false := by rfl) (hw : swappedStores [tg] e X.env = pure none := by rfl)
    (h1 : (assignEach [tg] X.env).map (·.2) = [assign tg X.env] := by rfl) : PSD X md (.Assign [tg] e pos) (asgX g f) := fun r hK hmd => (ps_asg (he r hK hmd) (hg r hK hmd) hs hw h1).imp fun D σ H h => by
  obtain ⟨ρ, S, h1, h2⟩ := h
  unfold asgX at h2
  cases q : f ρ with
  | ok y =>
    obtain ⟨m, ρ'⟩ := y
    simp only [q, R.ok_bind] at h2
    refine ⟨ρ, S, m, ρ', h1, q, fun v H2 S2 T h3 _ is nd d => ?_⟩
    cases q1 : g m ρ' with
    | ok ρ2 =>
      rw [q1] at h2
      exact ⟨ρ', S2, m, T, ρ2, h3, is, ⟨nd, d⟩, q1, fun σ' S' q2 _ => h2 _ _ _ q2⟩
    | exc c l => rw [q1] at h2; exact h2.elim
    | no => rw [q1] at h2; exact h2.elim
  | exc c l => rw [q] at h2; exact h2.elim
  | no => rw [q] at h2; exact h2.elim

/-! ### an expression that changes nothing, one to a value that never changes -/
variable {e : Expr} {U : List Nat}
def asI : M → R I
  | .im i => .ok i
  | _ => .no
theorem pxd_pure {f : Env → R M} (h : PE X e (tD X.K [] f)) : PXD X md e (pureX f) := fun r hK hmd => (show PE X e (tD r.K [] f) from hK ▸ h).imp fun σ H Q q => by
  obtain ⟨ρ, S, m, ρ', h1, h2, k⟩ := q
  obtain ⟨m', h3, h4⟩ := R.bind_ok (show (f ρ >>= fun a => .ok (a, ρ)) = .ok (m, ρ') from h2)
  cases h4
  exact ⟨ρ, S, m, h1.sl, h3, fun v H2 T ex is fr => k v H2 S T (h1.ex ex) (Ex.tk ex) is fr.nd fun a ha => h1.newApart (fr.new.free a ha)⟩
theorem pxi_pure {f : Env → R M} (h : PE X e (tD X.K U f)) : PXI X md e (pureX fun ρ => f ρ >>= asI) := fun r hK hmd => (show PE X e (tD r.K U f) from hK ▸ h).imp fun σ H Q q => by
  obtain ⟨ρ, S, m, ρ', h1, h2, k⟩ := q
  obtain ⟨m', h3, h4⟩ := R.bind_ok (show ((f ρ >>= asI) >>= fun a => .ok (a, ρ)) = .ok (m, ρ') from h2)
  cases h4
  obtain ⟨y, h5, h6⟩ := R.bind_ok h3
  cases y with
  | im i =>
    cases h6
    exact ⟨ρ, S, .im m, h1.sl, h5, fun v H2 T ex is fr => k v H2 S (h1.ex ex) (Ex.tk ex) is.im_nil.2⟩
  | _ => cases h6
theorem pxi_of {f : Env → R (M × Env)} (h : PXD X md e f) : PXI X md e (fun ρ => f ρ >>= fun x => asI x.1 >>= fun i => .ok (i, x.2)) := fun r hK hmd => (h r hK hmd).imp fun σ H Q q => by
  obtain ⟨ρ, S, m, ρ', h1, h2, k⟩ := q
  obtain ⟨y, h3, h4⟩ := R.bind_ok h2
  obtain ⟨j, h5, h6⟩ := R.bind_ok h4
  cases h6
  obtain ⟨ym, yρ⟩ := y
  cases ym with
  | im i =>
    cases h5
    exact ⟨ρ, S, .im m, yρ, h1, h3, fun v H2 S2 T h7 tk is _ _ => k v H2 S2 h7 tk is.im_nil.2⟩
  | _ => cases h5
theorem pxd_of {f : Env → R (I × Env)} (h : PXI X md e f) : PXD X md e (fun ρ => f ρ >>= fun x => .ok (.im x.1, x.2)) := fun r hK hmd => (h r hK hmd).imp fun σ H Q q => by
  obtain ⟨ρ, S, m, ρ', h1, h2, k⟩ := q
  obtain ⟨y, h3, h4⟩ := R.bind_ok h2
  obtain ⟨j, yρ⟩ := y
  cases h4
  exact ⟨ρ, S, j, yρ, h1, h3, fun v H2 S2 h7 tk is => k v H2 S2 [] h7 tk (.im is) List.nodup_nil fun _ z => (nomatch z)⟩
theorem pxt_pure {f : Env → R Bool} (h : PT X e (tDT X.K f)) : PXT X md e (pureX f) := fun r hK hmd => (show PT X e (tDT r.K f) from hK ▸ h).imp fun σ H Q q => by
  obtain ⟨ρ, S, m, ρ', h1, h2, k⟩ := q
  obtain ⟨m', h3, h4⟩ := R.bind_ok (show (f ρ >>= fun a => .ok (a, ρ)) = .ok (m, ρ') from h2)
  cases h4
  exact ⟨ρ, S, m, h1.sl, h3, fun H2 ex => k H2 S (h1.ex ex) (Ex.tk ex)⟩

/-! ### operators over such -/
variable {a b c : Expr} {fa fb : Env → R (I × Env)}
def opX (fa fb : Env → R (I × Env)) (g : M → M → R M) : Env → R (I × Env) := fun ρ => fa ρ >>= fun x => fb x.2 >>= fun y => g (.im x.1) (.im y.1) >>= fun z => asI z >>= fun i => .ok (i, y.2)
theorem imp_opX {g : M → M → R M} {r : Rn} {σ : L2.St} {H : Hp} {Q : VK} (h : tXI r (opX fa fb g) σ H Q) : tOp (rD r.K g) (tXI r fa) (tXI r fb) σ H Q := by
  obtain ⟨ρ, S, m, ρ', h1, h2, k⟩ := h
  obtain ⟨⟨x, ρ1⟩, h3, h4⟩ := R.bind_ok (show (fa ρ >>= fun x => fb x.2 >>= fun y => g (.im x.1) (.im y.1) >>= fun z => asI z >>= fun i => .ok (i, y.2)) = .ok (m, ρ') from h2)
  obtain ⟨⟨y, ρ2⟩, h5, h6⟩ := R.bind_ok h4
  obtain ⟨z, h7, h8⟩ := R.bind_ok h6
  obtain ⟨j, h9, h10⟩ := R.bind_ok h8
  cases h10
  cases z with
  | im z =>
    cases h9
    exact ⟨ρ, S, x, ρ1, h1, h3, fun v H1 S1 g1 tk1 is1 => ⟨ρ1, S1, y, ρ2, g1, h5, fun w H2 S2 g2 tk2 is2 => ⟨.im x, .im y, [], [], .im m, .im (is1.keep tk2), .im is2, h7, fun u H3 T ex is3 nw => k u H3 S2 (g2.ex ex) ((tk1.trans tk2).trans (Ex.tk ex)) is3.im_nil.2⟩⟩⟩
  | _ => cases h9
theorem pxi_op {op : Operator} {g : M → M → R M} (ho : OpR X (binaryOp op) (rD X.K g)) (ha : PXI X md a fa) (hb : PXI X md b fb) : PXI X md (.BinOp a op b pos) (opX fa fb g) := fun r hK hmd => (pe_op (show OpR X (binaryOp op) (rD r.K g) from hK ▸ ho) (ha r hK hmd) (hb r hK hmd)).imp fun _ _ _ h => imp_opX h
theorem pxi_cmp {op : CmpOp} {g : M → M → R M} (ho : OpR X (compareOp op) (rD X.K g)) (ha : PXI X md a fa) (hb : PXI X md b fb) (hm : behindInMarks op b = false := by first | exact nomark _ | rfl) : PXI X md (.Compare a [op] [b] pos) (opX fa fb g) := fun r hK hmd =>
  (pe_cmpR (show OpR X (compareOp op) (rD r.K g) from hK ▸ ho) (ha r hK hmd) (hb r hK hmd) hm).imp fun _ _ _ h => imp_opX h
def iB : I → R Bool
  | .bl b => .ok b
  | _ => .no
def tstX (f : Env → R (I × Env)) : Env → R (Bool × Env) := fun ρ => f ρ >>= fun x => iB x.1 >>= fun b => .ok (b, x.2)
theorem imp_tstX {f : Env → R (I × Env)} {r : Rn} {σ : L2.St} {H : Hp} {Q : Bool → Hp → Prop} (h : tXT r (tstX f) σ H Q) : tXI r f σ H (fun x H' => ∃ k, x = .bl k ∧ Q k H') := by
  obtain ⟨ρ, S, m, ρ', h1, h2, k⟩ := h
  obtain ⟨⟨x, ρ1⟩, h3, h4⟩ := R.bind_ok (show (f ρ >>= fun x => iB x.1 >>= fun b => .ok (b, x.2)) = .ok (m, ρ') from h2)
  obtain ⟨j, h5, h6⟩ := R.bind_ok h4
  cases h6
  cases x with
  | bl b =>
    cases h5
    refine ⟨ρ, S, .bl m, ρ1, h1, h3, fun v H2 S2 g1 tk is => ?_⟩
    cases is
    exact ⟨m, rfl, k H2 S2 g1 tk⟩
  | _ => cases h5
theorem pxt_cmp {op : CmpOp} {g : M → M → R M} (ho : OpR X (compareOp op) (rD X.K g)) (ha : PXI X md a fa) (hb : PXI X md b fb) (hm : behindInMarks op b = false := by first | exact nomark _ | rfl) : PXT X md (.Compare a [op] [b] pos) (tstX (opX fa fb g)) := fun r hK hmd =>
  (pt_cmpR (show OpR X (compareOp op) (rD r.K g) from hK ▸ ho) (ha r hK hmd) (hb r hK hmd) hm).imp fun σ H Q h => imp_opX (imp_tstX h)
theorem pxt_val {f : Env → R (I × Env)} (h : PXI X md a f) (he : ∀ whole, isTrue a X.env whole = (do let v ← whole; standAt a.pos; holding [v] (truthy v)) := by intro _; rfl) : PXT X md a (tstX f) := fun r hK hmd => (pt_val (h r hK hmd) he).imp fun _ _ _ h => imp_tstX h
def notX (f : Env → R (Bool × Env)) : Env → R (Bool × Env) := fun ρ => f ρ >>= fun x => .ok (!x.1, x.2)
theorem pxt_not {f : Env → R (Bool × Env)} (h : PXT X md a f) : PXT X md (.UnaryOp .Not a pos) (notX f) := fun r hK hmd => (pt_not (h r hK hmd)).imp fun σ H Q h => by
  obtain ⟨ρ, S, m, ρ', h1, h2, k⟩ := h
  obtain ⟨⟨x, ρ1⟩, h3, h4⟩ := R.bind_ok (show (f ρ >>= fun x => .ok (!x.1, x.2)) = .ok (m, ρ') from h2)
  cases h4
  exact ⟨ρ, S, x, ρ1, h1, h3, fun H2 S2 g1 tk => k H2 S2 g1 tk⟩
def andX (f g : Env → R (Bool × Env)) : Env → R (Bool × Env) := fun ρ => f ρ >>= fun x => if x.1 then g x.2 else .ok (false, x.2)
def orX (f g : Env → R (Bool × Env)) : Env → R (Bool × Env) := fun ρ => f ρ >>= fun x => if x.1 then .ok (true, x.2) else g x.2
variable {rest : List Expr} {ga gb : Env → R (Bool × Env)}
theorem pxw_and1 (ha : PXT X md a ga) : PXW X md (.BoolOp .And [a] pos) ga := fun r hK hmd => pw_and1 (ha r hK hmd)
theorem pxw_or1 (ha : PXT X md a ga) : PXW X md (.BoolOp .Or [a] pos) ga := fun r hK hmd => pw_or1 (ha r hK hmd)
theorem pxt_w (ha : PXW X md a ga) : PXT X md a ga := fun r hK hmd => (ha r hK hmd).pt
theorem pxw_and (ha : PXT X md a ga) (hb : PXW X md (.BoolOp .And (b :: rest) pos) gb) : PXW X md (.BoolOp .And (a :: b :: rest) pos) (andX ga gb) := fun r hK hmd => (pw_and (ha r hK hmd) (hb r hK hmd)).imp fun σ H Q h => by
  obtain ⟨ρ, S, m, ρ', h1, h2, k⟩ := h
  obtain ⟨⟨x, ρ1⟩, h3, h4⟩ := R.bind_ok (show (ga ρ >>= fun x => if x.1 then gb x.2 else .ok (false, x.2)) = .ok (m, ρ') from h2)
  refine ⟨ρ, S, x, ρ1, h1, h3, fun H2 S2 g1 tk => ?_⟩
  cases x with
  | true => exact ⟨ρ1, S2, m, ρ', g1, h4, fun H3 S3 g3 tk3 => k H3 S3 g3 (tk.trans tk3)⟩
  | false =>
    cases h4
    exact k H2 S2 g1 tk
theorem pxw_or (ha : PXT X md a ga) (hb : PXW X md (.BoolOp .Or (b :: rest) pos) gb) : PXW X md (.BoolOp .Or (a :: b :: rest) pos) (orX ga gb) := fun r hK hmd => (pw_or (ha r hK hmd) (hb r hK hmd)).imp fun σ H Q h => by
  obtain ⟨ρ, S, m, ρ', h1, h2, k⟩ := h
  obtain ⟨⟨x, ρ1⟩, h3, h4⟩ := R.bind_ok (show (ga ρ >>= fun x => if x.1 then .ok (true, x.2) else gb x.2) = .ok (m, ρ') from h2)
  refine ⟨ρ, S, x, ρ1, h1, h3, fun H2 S2 g1 tk => ?_⟩
  cases x with
  | false => exact ⟨ρ1, S2, m, ρ', g1, h4, fun H3 S3 g3 tk3 => k H3 S3 g3 (tk.trans tk3)⟩
  | true =>
    cases h4
    exact k H2 S2 g1 tk
def ifXI (c : Env → R (Bool × Env)) (f g : Env → R (I × Env)) : Env → R (I × Env) := fun ρ => c ρ >>= fun x => if x.1 then f x.2 else g x.2
theorem pxi_if {gc : Env → R (Bool × Env)} (hc : PXT X md c gc) (ha : PXI X md a fa) (hb : PXI X md b fb) : PXI X md (.IfExp c a b pos) (ifXI gc fa fb) := fun r hK hmd => (pe_ifExp (hc r hK hmd) (ha r hK hmd) (hb r hK hmd)).imp fun σ H Q h => by
  obtain ⟨ρ, S, m, ρ', h1, h2, k⟩ := h
  obtain ⟨⟨x, ρ1⟩, h3, h4⟩ := R.bind_ok (show (gc ρ >>= fun x => if x.1 then fa x.2 else fb x.2) = .ok (m, ρ') from h2)
  refine ⟨ρ, S, x, ρ1, h1, h3, fun H2 S2 g1 tk => ?_⟩
  cases x with
  | true => exact ⟨ρ1, S2, m, ρ', g1, h4, fun v H3 S3 g3 tk3 => k v H3 S3 g3 (tk.trans tk3)⟩
  | false => exact ⟨ρ1, S2, m, ρ', g1, h4, fun v H3 S3 g3 tk3 => k v H3 S3 g3 (tk.trans tk3)⟩

/-! ### arguments, displays -/
variable {es : List Expr} {f : Env → R (I × Env)} {g : Env → R (List I × Env)}
theorem pxa_nil : PXA X md [] (fun ρ => .ok ([], ρ)) := fun r hK hmd => pa_nil.imp fun σ H Q h => by
  obtain ⟨ρ, S, m, ρ', h1, h2, k⟩ := h
  cases h2
  exact k [] H S h1 (TK.refl H) .nil
def consX (f : Env → R (I × Env)) (g : Env → R (List I × Env)) : Env → R (List I × Env) := fun ρ => f ρ >>= fun x => g x.2 >>= fun y => .ok (x.1 :: y.1, y.2)
theorem pxa_cons (he : PXI X md e f) (hr : PXA X md es g) (hs : starEach (e :: es) X.env = (false, eval e X.env) :: starEach es X.env := by rfl) : PXA X md (e :: es) (consX f g) := fun r hK hmd => (pa_cons (he r hK hmd) (hr r hK hmd) hs).imp fun σ H Q h => by
  obtain ⟨ρ, S, m, ρ', h1, h2, k⟩ := h
  obtain ⟨⟨x, ρ1⟩, h3, h4⟩ := R.bind_ok (show (f ρ >>= fun x => g x.2 >>= fun y => .ok (x.1 :: y.1, y.2)) = .ok (m, ρ') from h2)
  obtain ⟨⟨y, ρ2⟩, h5, h6⟩ := R.bind_ok h4
  cases h6
  exact ⟨ρ, S, x, ρ1, h1, h3, fun v H1 S1 g1 tk1 is1 => ⟨ρ1, S1, y, ρ2, g1, h5, fun vs H2 S2 g2 tk2 is2 => k (v :: vs) H2 S2 g2 (tk1.trans tk2) (.cons (is1.keep tk2) is2)⟩⟩
def tupX (g : Env → R (List I × Env)) : Env → R (I × Env) := fun ρ => g ρ >>= fun x => if x.1.length ≤ sizeLine then .ok (.tup x.1, x.2) else .no
theorem pxi_tup {x1} (h : PXA X md es g) : PXI X md (.Tuple es x1 pos) (tupX g) := fun r hK hmd => (pe_tup (h r hK hmd)).imp fun σ H Q h => by
  obtain ⟨ρ, S, m, ρ', h1, h2, k⟩ := h
  obtain ⟨⟨x, ρ1⟩, h3, h4⟩ := R.bind_ok (show (g ρ >>= fun x => if x.1.length ≤ sizeLine then .ok (.tup x.1, x.2) else .no) = .ok (m, ρ') from h2)
  split at h4
  · rename_i hl
    cases h4
    exact ⟨ρ, S, x, ρ1, h1, h3, fun vs H1 S1 g1 tk1 is1 => ⟨by rw [is1.length]; exact hl, fun p hp => k _ _ S1 (g1.ex (Ex.new hp)) (tk1.trans (Ex.tk (Ex.new hp))) (.tup (.of upd_same) (is1.keep (Ex.tk (Ex.new hp))))⟩⟩
  · cases h4
def lstX (g : Env → R (List I × Env)) : Env → R (M × Env) := fun ρ => g ρ >>= fun x => if x.1.length ≤ sizeLine then .ok (.lst (x.1.map .im), x.2) else .no
theorem pxd_lst (h : PXA X md es g) : PXD X md (.List es pos) (lstX g) := fun r hK hmd => (pe_lst (h r hK hmd)).imp fun σ H Q h => by
  obtain ⟨ρ, S, m, ρ', h1, h2, k⟩ := h
  obtain ⟨⟨x, ρ1⟩, h3, h4⟩ := R.bind_ok (show (g ρ >>= fun x => if x.1.length ≤ sizeLine then .ok (.lst (x.1.map .im), x.2) else .no) = .ok (m, ρ') from h2)
  split at h4
  · rename_i hl
    cases h4
    exact ⟨ρ, S, x, ρ1, h1, h3, fun vs H1 S1 g1 tk1 is1 => ⟨by rw [is1.length]; exact hl, fun p hp => k _ _ S1 [p] (g1.ex (Ex.new hp)) (tk1.trans (Ex.tk (Ex.new hp))) (.lst upd_same (IsMs.ims (is1.keep (Ex.tk (Ex.new hp))))) (by simp) fun a ha => by
      rw [List.mem_singleton.mp ha]
      exact g1.newApart hp⟩⟩
  · cases h4
/-- a built-in of such arguments -/
def calX (g : Env → R (List I × Env)) (gc : List M → R M) : Env → R (M × Env) := fun ρ => g ρ >>= fun x => gc (x.1.map .im) >>= fun m => .ok (m, x.2)
theorem ars_ims {K : PySem.W.Frag} {H : Hp} : ∀ {vs : List V} {l : List I}, IsIs K H vs l → Ars K H vs (l.map .im) (l.map fun _ => [])
  | _, _, .nil => .nil
  | _, _, .cons h r => .cons (.im h) List.nodup_nil (ars_ims r)
theorem imp_calX {gc : List M → R M} {r : Rn} {σ : L2.St} {H : Hp} {Q : VK} (h : tX r (calX g gc) σ H Q) : tCB (rDC r.K gc) (tXA r g) σ H Q := by
  obtain ⟨ρ, S, m, ρ', h1, h2, k⟩ := h
  obtain ⟨⟨x, ρ1⟩, h3, h4⟩ := R.bind_ok (show (g ρ >>= fun x => gc (x.1.map .im) >>= fun m => .ok (m, x.2)) = .ok (m, ρ') from h2)
  obtain ⟨y, h5, h6⟩ := R.bind_ok h4
  cases h6
  exact ⟨ρ, S, x, ρ1, h1, h3, fun vs H1 S1 g1 tk1 is1 => ⟨_, _, m, ars_ims is1, h5, fun v H2 T ex is nw => k v H2 S1 T (g1.ex ex) (tk1.trans (Ex.tk ex)) is nw.nd fun a ha => g1.newApart (nw.free a ha)⟩⟩
variable {x : Str} {p : Pos} {id T : String} {gc : List M → R M}
theorem pxd_callB (hc : CallR X (.builtin id) (rDC X.K gc)) (hg : Gl X x) (hm : X.mg x = none) (hv : bootBuiltins x = some (.builtin id)) (ha : PXA X md (e :: es) g) (hn : x ≠ "__name__" := by decide) (hdb : (x == ("__debug__" : Str)) = false := by decide)
    (he : starEach (e :: es) X.env = (false, eval e X.env) :: starEach es X.env := by rfl) (hpl : (backTo pos (starEach es X.env)).any (·.1) = false := by rfl) : PXD X md (.Call (.Name x p) (e :: es) [] pos) (calX g gc) := fun r hK hmd =>
  (pe_callB (show CallR X (.builtin id) (rDC r.K gc) from hK ▸ hc) hg hm hv (ha r hK hmd) hn hdb he hpl).imp fun _ _ _ h => imp_calX h
theorem pxd_callTy (hc : CallR X (.type T) (rDC X.K gc)) (hg : Gl X x) (hm : X.mg x = none) (hv : bootBuiltins x = some (.type T)) (ha : PXA X md (e :: es) g) (hn : x ≠ "__name__" := by decide) (hdb : (x == ("__debug__" : Str)) = false := by decide)
    (he : starEach (e :: es) X.env = (false, eval e X.env) :: starEach es X.env := by rfl) (hpl : (backTo pos (starEach es X.env)).any (·.1) = false := by rfl) : PXD X md (.Call (.Name x p) (e :: es) [] pos) (calX g gc) := fun r hK hmd =>
  (pe_callTy (show CallR X (.type T) (rDC r.K gc) from hK ▸ hc) hg hm hv (ha r hK hmd) hn hdb he hpl).imp fun _ _ _ h => imp_calX h
end
end DL
/-! DL8: list and dict stores, an index that changes slots, comprehensions as expressions, ranges, a def's body. -/
namespace DL
open PySem PySem.Spec PyProof.Rows L2

/-! ### dicts as plain lists of pairs -/
section
variable {α : Type}
def dGet (l : List (Key × α)) (k : Key) : Option α := (l.find? fun kv => decide (kv.1 = k)).map (·.2)
def dPut (l : List (Key × α)) (k : Key) (v : α) : List (Key × α) :=
  if (l.any fun kv => decide (kv.1 = k)) = true then l.map (fun kv => if kv.1 = k then (kv.1, v) else kv) else l ++ [(k, v)]
def dDrop (l : List (Key × α)) (k : Key) : List (Key × α) := l.filter fun kv => decide (kv.1 ≠ k)
end
def keyOf : M → Option Key
  | .im (.int i) => some (.inl i)
  | .im (.str x) => some (.inr x)
  | _ => none
theorem keyOf_is {K : PySem.W.Frag} {H : Hp} {v : V} {m : M} {T : List Addr} {k : Key} (h : keyOf m = some k) (is : IsM K H v m T) : v = kV k := by
  unfold keyOf at h
  split at h
  · cases h
    cases is with
    | im is => cases is; rfl
  · cases h
    cases is with
    | im is => cases is; rfl
  · cases h
section
variable {K : PySem.W.Frag} {H : Hp}
theorem dGet_is {k : Key} : ∀ {kvs : List (Key × V)} {l : List (Key × M)} {T : List Addr}, kvs.map (·.1) = l.map (·.1) → IsMs K H (kvs.map (·.2)) (l.map (·.2)) T → T.Nodup →
    (dGet l k = none → valV kvs k = none) ∧ ∀ m, dGet l k = some m → ∃ v Tv, valV kvs k = some v ∧ IsM K H v m Tv ∧ Tv.Nodup ∧ ∀ a ∈ Tv, a ∈ T
  | [], [], _, _, _, _ => ⟨fun _ => rfl, fun m h => by cases h⟩
  | [], _ :: _, _, h, _, _ => by simp at h
  | _ :: _, [], _, h, _, _ => by simp at h
  | (g, y) :: kvs, (g', z) :: l, T, h, is, nd => by
    simp only [List.map_cons, List.cons.injEq] at h
    obtain ⟨rfl, h⟩ := h
    simp only [List.map_cons] at is
    cases is with
    | cons i1 i2 =>
      rename_i T1 T2
      have ndd := List.nodup_append.mp nd
      by_cases e : g = k
      · subst e
        have e1 : dGet ((g, z) :: l) g = some z := by simp [dGet]
        have e2 : valV ((g, y) :: kvs) g = some y := by simp [valV]
        refine ⟨fun q => (by rw [e1] at q; cases q), fun m q => ?_⟩
        rw [e1] at q
        cases q
        exact ⟨y, T1, e2, i1, ndd.1, fun a ha => List.mem_append_left _ ha⟩
      · have e1 : dGet ((g, z) :: l) k = dGet l k := by simp [dGet, e]
        have e2 : valV ((g, y) :: kvs) k = valV kvs k := by simp [valV, e]
        obtain ⟨q1, q2⟩ := dGet_is (k := k) h i2 ndd.2.1
        rw [e1, e2]
        exact ⟨q1, fun m q => let ⟨v, Tv, a, b, c, d⟩ := q2 m q; ⟨v, Tv, a, b, c, fun x hx => List.mem_append_right _ (d x hx)⟩⟩
theorem any_keys {k : Key} : ∀ {kvs : List (Key × V)} {l : List (Key × M)}, kvs.map (·.1) = l.map (·.1) → (kvs.any fun kv => decide (kv.1 = k)) = l.any fun kv => decide (kv.1 = k)
  | [], [], _ => rfl
  | [], _ :: _, h => by simp at h
  | _ :: _, [], h => by simp at h
  | (g, y) :: kvs, (g', z) :: l, h => by
    simp only [List.map_cons, List.cons.injEq] at h
    obtain ⟨rfl, h⟩ := h
    rw [List.any_cons, List.any_cons, any_keys h]
theorem map_at {k : Key} {w : V} {x : M} {Tx : List Addr} (isx : IsM K H w x Tx) : ∀ {kvs : List (Key × V)} {l : List (Key × M)} {T : List Addr}, kvs.map (·.1) = l.map (·.1) → (l.map (·.1)).Nodup → IsMs K H (kvs.map (·.2)) (l.map (·.2)) T → (T ++ Tx).Nodup →
    ∃ T', IsMs K H ((kvs.map fun kv => if kv.1 = k then (kv.1, w) else kv).map (·.2)) ((l.map fun kv => if kv.1 = k then (kv.1, x) else kv).map (·.2)) T' ∧ T'.Nodup ∧ ∀ a ∈ T', a ∈ T ∨ a ∈ Tx
  | [], [], T, _, _, is, nd => by
    cases is
    exact ⟨[], .nil, List.nodup_nil, fun a ha => by cases ha⟩
  | [], _ :: _, _, h, _, _, _ => by simp at h
  | _ :: _, [], _, h, _, _, _ => by simp at h
  | (g, y) :: kvs, (g', z) :: l, T, h, nk, is, nd => by
    simp only [List.map_cons, List.cons.injEq] at h
    obtain ⟨rfl, h⟩ := h
    simp only [List.map_cons] at is nk
    have nk2 := List.nodup_cons.mp nk
    cases is with
    | cons i1 i2 =>
      rename_i T1 T2
      rw [List.append_assoc] at nd
      have ndd := List.nodup_append.mp nd
      have nd2 := List.nodup_append.mp ndd.2.1
      by_cases e : g = k
      · subst e
        have no : ∀ {β : Type} {l' : List (Key × β)} (q : β), l'.map (·.1) = l.map (·.1) → (l'.map fun kv => if kv.1 = g then (kv.1, q) else kv) = l' := fun {β l'} q hl => by
          have hg : g ∉ l'.map (·.1) := by rw [hl]; exact nk2.1
          clear hl
          induction l' with
          | nil => rfl
          | cons p r ih =>
            simp only [List.map_cons, List.mem_cons, not_or] at hg
            rw [List.map_cons, ih hg.2, if_neg (fun z => hg.1 z.symm)]
        refine ⟨Tx ++ T2, ?_, List.nodup_append.mpr ⟨nd2.2.1, nd2.1, fun a ha b hb q => nd2.2.2 b hb a ha q.symm⟩, fun a ha => ?_⟩
        · simp only [List.map_cons, if_true]
          rw [no w h, no x rfl]
          exact .cons isx i2
        · rcases List.mem_append.mp ha with q | q
          · exact .inr q
          · exact .inl (List.mem_append_right _ q)
      · obtain ⟨T', q2, q3, q4⟩ := map_at (k := k) isx h nk2.2 i2 ndd.2.1
        refine ⟨T1 ++ T', ?_, List.nodup_append.mpr ⟨ndd.1, q3, fun a ha b hb q => ?_⟩, fun a ha => ?_⟩
        · simp only [List.map_cons, if_neg e]
          exact .cons i1 q2
        · subst q
          rcases q4 a hb with z | z
          · exact ndd.2.2 a ha a (List.mem_append_left _ z) rfl
          · exact ndd.2.2 a ha a (List.mem_append_right _ z) rfl
        · rcases List.mem_append.mp ha with q | q
          · exact .inl (List.mem_append_left _ q)
          · exact (q4 a q).imp (fun y => List.mem_append_right _ y) id
theorem keys_map {α : Type} {k : Key} {v : α} : ∀ (l : List (Key × α)), (l.map fun kv => if kv.1 = k then (kv.1, v) else kv).map (·.1) = l.map (·.1)
  | [] => rfl
  | p :: r => by
    simp only [List.map_cons, keys_map r]
    by_cases e : p.1 = k
    · rw [if_pos e]
    · rw [if_neg e]
theorem dPut_is {k : Key} {w : V} {x : M} {Tx : List Addr} (isx : IsM K H w x Tx) {kvs : List (Key × V)} {l : List (Key × M)} {T : List Addr} (h : kvs.map (·.1) = l.map (·.1)) (nk : (l.map (·.1)).Nodup) (is : IsMs K H (kvs.map (·.2)) (l.map (·.2)) T) (nd : (T ++ Tx).Nodup) :
    (putK kvs k w).map (·.1) = (dPut l k x).map (·.1) ∧ ((dPut l k x).map (·.1)).Nodup ∧ ∃ T', IsMs K H ((putK kvs k w).map (·.2)) ((dPut l k x).map (·.2)) T' ∧ T'.Nodup ∧ ∀ a ∈ T', a ∈ T ∨ a ∈ Tx := by
  unfold putK dPut
  rw [any_keys h]
  by_cases e : (l.any fun kv => decide (kv.1 = k)) = true
  · rw [if_pos e, if_pos e, keys_map, keys_map]
    exact ⟨h, nk, map_at isx h nk is nd⟩
  · rw [if_neg e, if_neg e]
    refine ⟨by simp [h], ?_, T ++ (Tx ++ []), ?_, by simpa using nd, fun a ha => by simpa using ha⟩
    · rw [List.map_append, List.nodup_append]
      refine ⟨nk, by simp, fun a ha b hb q => ?_⟩
      simp only [List.map_cons, List.map_nil, List.mem_singleton] at hb
      subst q hb
      obtain ⟨p, hp, rfl⟩ := List.mem_map.mp ha
      exact e (List.any_eq_true.mpr ⟨p, hp, by simp⟩)
    · rw [List.map_append, List.map_append]
      exact is.append (.cons isx .nil)
theorem dDrop_is {k : Key} : ∀ {kvs : List (Key × V)} {l : List (Key × M)} {T : List Addr}, kvs.map (·.1) = l.map (·.1) → (l.map (·.1)).Nodup → IsMs K H (kvs.map (·.2)) (l.map (·.2)) T → T.Nodup →
    (dropK kvs k).map (·.1) = (dDrop l k).map (·.1) ∧ ((dDrop l k).map (·.1)).Nodup ∧ ∃ T', IsMs K H ((dropK kvs k).map (·.2)) ((dDrop l k).map (·.2)) T' ∧ T'.Nodup ∧ ∀ a ∈ T', a ∈ T
  | [], [], T, _, _, is, nd => by
    cases is
    exact ⟨rfl, List.nodup_nil, [], .nil, List.nodup_nil, fun a ha => by cases ha⟩
  | [], _ :: _, _, h, _, _, _ => by simp at h
  | _ :: _, [], _, h, _, _, _ => by simp at h
  | (g, y) :: kvs, (g', z) :: l, T, h, nk, is, nd => by
    simp only [List.map_cons, List.cons.injEq] at h
    obtain ⟨rfl, h⟩ := h
    simp only [List.map_cons] at is nk
    have nk2 := List.nodup_cons.mp nk
    cases is with
    | cons i1 i2 =>
      rename_i T1 T2
      have ndd := List.nodup_append.mp nd
      obtain ⟨q1, q0, T', q2, q3, q4⟩ := dDrop_is (k := k) h nk2.2 i2 ndd.2.1
      by_cases e : g = k
      · have e1 : dDrop ((g, z) :: l) k = dDrop l k := by simp [dDrop, e]
        have e2 : dropK ((g, y) :: kvs) k = dropK kvs k := by simp [dropK, e]
        rw [e1, e2]
        exact ⟨q1, q0, T', q2, q3, fun a ha => List.mem_append_right _ (q4 a ha)⟩
      · have e1 : dDrop ((g, z) :: l) k = (g, z) :: dDrop l k := by simp [dDrop, e]
        have e2 : dropK ((g, y) :: kvs) k = (g, y) :: dropK kvs k := by simp [dropK, e]
        rw [e1, e2]
        refine ⟨by simp [q1], ?_, T1 ++ T', by simpa using IsMs.cons i1 q2, List.nodup_append.mpr ⟨ndd.1, q3, fun a ha b hb q => ndd.2.2 a ha b (q4 b hb) q⟩, fun a ha => ?_⟩
        · rw [List.map_cons]
          refine List.nodup_cons.mpr ⟨fun z => nk2.1 ?_, q0⟩
          obtain ⟨p, hp, hp2⟩ := List.mem_map.mp z
          exact List.mem_map.mpr ⟨p, (List.mem_filter.mp hp).1, hp2⟩
        · rcases List.mem_append.mp ha with q | q
          · exact List.mem_append_left _ q
          · exact List.mem_append_right _ (q4 a q)
theorem IsMs.setIt {vs : List V} {l : List M} {T Tx : List Addr} {j : Nat} {w : V} {x : M} (is : IsMs K H vs l T) (hj : j < l.length) (isx : IsM K H w x Tx) (nd : (T ++ Tx).Nodup) : ∃ T', IsMs K H (vs.set j w) (l.set j x) T' ∧ T'.Nodup ∧ ∀ a ∈ T', a ∈ T ∨ a ∈ Tx := by
  obtain ⟨v, S1, T1, S2, h1, rfl, h3, h4⟩ := is.nth j (List.getElem?_eq_getElem hj)
  have ndd := List.nodup_append.mp nd
  refine ⟨S1 ++ Tx ++ S2, h4 H w x Tx (TK.refl H) (fun _ _ _ e => e) isx, nodup3 ndd.1 ndd.2.1 (fun a ha => .inr fun z => ndd.2.2 a z a ha rfl), fun a ha => ?_⟩
  rcases List.mem_append.mp ha with z | z
  · rcases List.mem_append.mp z with z | z
    · exact .inl (List.mem_append_left _ (List.mem_append_left _ z))
    · exact .inr z
  · exact .inl (List.mem_append_right _ z)
end

section
variable {X : Cx} {md : List Md} {pos pos' cpos apos tpos : Pos} {e o ix : Expr} {i : Nat} {pl : List Stp} {U : List Nat} {f g : Env → R M}
/-- o[ix] = e -/
def plS2 (i : Nat) (pl : List Stp) (f g : Env → R M) (F : M → M → M → R M) : Env → R Fl := fun ρ => f ρ >>= fun x => getV ρ i >>= fun m => match subM m pl with
  | some n => g ρ >>= fun k => F n k x >>= fun n' => .ok (.nx (ρ.set i (some (updM m pl n'))))
  | none => .no
def setItL : M → M → M → R M
  | .lst l, .im (.int k), x => match ixN l.length k with
    | some j => .ok (.lst (l.set j x))
    | none => .no
  | _, _, _ => .no
def setItD : M → M → M → R M
  | .dic l, k, x => match keyOf k with
    | some k => if l.length < sizeLine then .ok (.dic (dPut l k x)) else .no
    | none => .no
  | _, _, _ => .no
theorem ixN_lt {n j : Nat} {k : Int} (h : ixN n k = some j) : j < n := by
  unfold ixN at h
  split at h
  · split at h
    · cases h; omega
    · cases h
  · split at h
    · cases h; omega
    · cases h
theorem ixN_len {vs : List V} {l : List M} {K : PySem.W.Frag} {H : Hp} {T : List Addr} (h : IsMs K H vs l T) : vs.length = l.length := h.length
theorem psd_setItL (hi : md[i]? = some Md.loc ∨ md[i]? = some Md.io) (ho : PE X o (tP i pl)) (hix : PE X ix (tD X.K U g)) (hv : PE X e (tD X.K [] f))
    (hs : swapsWithSole [.Subscript o ix pos'] e pos.line X.env = pure false := by rfl) (hw : swappedStores [.Subscript o ix pos'] e X.env = pure none := by rfl) (h1 : (assignEach [.Subscript o ix pos'] X.env).map (·.2) = [assign (.Subscript o ix pos') X.env] := by rfl)
    (ha : ∀ v, assign (.Subscript o ix pos') X.env v = (do
      let ov ← holding [v] (eval o X.env)
      let iv ← holding [v, ov] (eval ix X.env)
      standAt pos'
      holding [v, ov, iv] (setItem ov iv v)
      release [v, ov, iv] []) := by intro _; rfl) :
    PSD X md (.Assign [.Subscript o ix pos'] e pos) (plS2 i pl f g setItL) := fun r hK hmd => (ps_asg hv (pg_sub ho hix set_list ha) hs hw h1).imp fun D σ H h => by
  obtain ⟨ρ, S, h1, h2⟩ := h
  unfold plS2 at h2
  cases q : f ρ with
  | exc c l => rw [q] at h2; exact h2.elim
  | no => rw [q] at h2; exact h2.elim
  | ok x =>
    rw [q, R.ok_bind] at h2
    cases q1 : getV ρ i with
    | exc c l => rw [q1] at h2; exact h2.elim
    | no => rw [q1] at h2; exact h2.elim
    | ok m =>
      rw [q1, R.ok_bind] at h2
      split at h2
      · rename_i n0 hs0
        cases q3 : g ρ with
        | exc c l => rw [q3] at h2; exact h2.elim
        | no => rw [q3] at h2; exact h2.elim
        | ok k =>
          rw [q3, R.ok_bind] at h2
          cases q2 : setItL n0 k x with
          | exc c l => rw [q2] at h2; exact h2.elim
          | no => rw [q2] at h2; exact h2.elim
          | ok n' =>
            rw [q2] at h2
            refine ⟨ρ, S, x, hK ▸ h1.sl, q, fun vx H1 Tx ex isx fr => ?_⟩
            obtain ⟨v, w, T, e1, e2, e3, e4, e5⟩ := h1.store (n' := n') (by rw [hmd]; exact hi) q1 hs0 ex fr.nd (fun a ha => h1.newApart (fr.new.free a ha)) (hK ▸ isx)
            refine ⟨v, w, e1, e2, ρ, S, k, hK ▸ h1.sl.ex ex, q3, fun vk H2 Tk ex2 isk _ => ?_⟩
            cases e3 with
            | lst hl hr =>
              rename_i a xs l T
              cases isk with
              | im isk =>
                cases isk with
                | int =>
                  rename_i k'
                  have q2 : (match ixN l.length k' with
                    | some j => R.ok (M.lst (l.set j x))
                    | none => .no) = .ok n' := q2
                  split at q2
                  · rename_i j hj
                    cases q2
                    have hl2 := ex2 _ _ hl
                    refine ⟨a, xs, k', j, rfl, rfl, hl2, by rw [hr.length]; exact hj, ?_⟩
                    have nd' := List.nodup_cons.mp (show (a :: (T ++ Tx)).Nodup from e4)
                    have nT : a ∉ T := fun z => nd'.1 (List.mem_append_left _ z)
                    have nx : a ∉ Tx := fun z => nd'.1 (List.mem_append_right _ z)
                    obtain ⟨T', g2, g3, g4⟩ := IsMs.setIt (((hr.ex ex2).upd (o' := .lst (xs.set j vx)) hl2 (fun _ q => nomatch q) (fun _ _ q => nomatch q) nT)) (ixN_lt hj) (((hK ▸ isx : IsM r.K H1 vx x Tx).ex ex2).upd (o' := .lst (xs.set j vx)) hl2 (fun _ q => nomatch q) (fun _ _ q => nomatch q) nx) nd'.2
                    obtain ⟨S', q⟩ := e5 (L2.upd H2 a (.lst (xs.set j vx))) (a :: T') ⟨fun b u z y => by
                      rw [upd_ne (show b ≠ a from fun q => y (q ▸ List.mem_cons_self))]
                      exact ex2 b u z, (Ex.tk ex2).trans (upd_fm (T := [a]) hl2 (fun _ q => nomatch q) (fun _ _ q => nomatch q) (by simp)).tk⟩ (.lst upd_same g2) (List.nodup_cons.mpr ⟨fun z => (g4 a z).elim nT nx, g3⟩) fun b hb => by
                      rcases List.mem_cons.mp hb with z | z
                      · exact .inl (z ▸ List.mem_cons_self)
                      · rcases g4 b z with z | z
                        · exact .inl (List.mem_cons_of_mem _ z)
                        · exact .inr (.inl z)
                    exact h2 σ _ S' q
                  · cases q2
                | _ => cases q2
              | _ => cases q2
            | _ => cases q2
      · exact h2.elim
theorem psd_setItD (hu : X.A.units + 1 < cLine) (hi : md[i]? = some Md.loc ∨ md[i]? = some Md.io) (ho : PE X o (tP i pl)) (hix : PE X ix (tD X.K U g)) (hv : PE X e (tD X.K [] f)) (hs : swapsWith e (some (.Subscript o ix pos')) pos.line X.env = pure false := by rfl) :
    PSD X md (.Assign [.Subscript o ix pos'] e pos) (plS2 i pl f g setItD) := fun r hK hmd => (ps_dput hu ho hix hv hs).imp fun D σ H h => by
  obtain ⟨ρ, S, h1, h2⟩ := h
  unfold plS2 at h2
  cases q : f ρ with
  | exc c l => rw [q] at h2; exact h2.elim
  | no => rw [q] at h2; exact h2.elim
  | ok x =>
    rw [q, R.ok_bind] at h2
    cases q1 : getV ρ i with
    | exc c l => rw [q1] at h2; exact h2.elim
    | no => rw [q1] at h2; exact h2.elim
    | ok m =>
      rw [q1, R.ok_bind] at h2
      split at h2
      · rename_i n0 hs0
        cases q3 : g ρ with
        | exc c l => rw [q3] at h2; exact h2.elim
        | no => rw [q3] at h2; exact h2.elim
        | ok k =>
          rw [q3, R.ok_bind] at h2
          cases q2 : setItD n0 k x with
          | exc c l => rw [q2] at h2; exact h2.elim
          | no => rw [q2] at h2; exact h2.elim
          | ok n' =>
            rw [q2] at h2
            refine ⟨ρ, S, x, hK ▸ h1.sl, q, fun vx H1 Tx ex isx fr => ?_⟩
            obtain ⟨v, w, T, e1, e2, e3, e4, e5⟩ := h1.store (n' := n') (by rw [hmd]; exact hi) q1 hs0 ex fr.nd (fun a ha => h1.newApart (fr.new.free a ha)) (hK ▸ isx)
            refine ⟨v, w, e1, e2, ρ, S, k, hK ▸ h1.sl.ex ex, q3, fun vk H2 Tk ex2 isk _ => ?_⟩
            cases e3 with
            | dic hl hn nk hr =>
              rename_i a kvs l T
              have hl : H1 a = some (.dK kvs) := by
                obtain ⟨v', w', T2, p1, p2, p3, _, p5, _⟩ := (h1.ex ex).place (by rw [hmd]; exact hi) q1 hs0
                rw [e1] at p1
                cases p1
                rw [e2] at p2
                cases p2
                cases p3
                exact hl.live ((h1.ex ex).nf (p5 a List.mem_cons_self).1)
              have q2 : (match keyOf k with
                | some k => if l.length < sizeLine then R.ok (M.dic (dPut l k x)) else .no
                | none => .no) = .ok n' := q2
              split at q2
              · rename_i kk hk
                split at q2
                · rename_i hlen
                  cases q2
                  obtain rfl := keyOf_is hk isk
                  have hl2 := ex2 _ _ hl
                  have len : kvs.length = l.length := by simpa using congrArg List.length hn
                  refine ⟨a, _, rfl, DPut.k hl2 (by rw [len]; exact hlen), ?_⟩
                  have nd' := List.nodup_cons.mp (show (a :: (T ++ Tx)).Nodup from e4)
                  have nT : a ∉ T := fun z => nd'.1 (List.mem_append_left _ z)
                  have nx : a ∉ Tx := fun z => nd'.1 (List.mem_append_right _ z)
                  obtain ⟨g0, g1, T', g2, g3, g4⟩ := dPut_is (k := kk) (((hK ▸ isx : IsM r.K H1 vx x Tx).ex ex2).upd (o' := .dK (putK kvs kk vx)) hl2 (fun _ q => nomatch q) (fun _ _ q => nomatch q) nx) hn nk (((hr.ex ex2).upd (o' := .dK (putK kvs kk vx)) hl2 (fun _ q => nomatch q) (fun _ _ q => nomatch q) nT)) nd'.2
                  obtain ⟨S', q⟩ := e5 (L2.upd H2 a (.dK (putK kvs kk vx))) (a :: T') ⟨fun b u z y => by
                    rw [upd_ne (show b ≠ a from fun q => y (q ▸ List.mem_cons_self))]
                    exact ex2 b u z, (Ex.tk ex2).trans (upd_fm (T := [a]) hl2 (fun _ q => nomatch q) (fun _ _ q => nomatch q) (by simp)).tk⟩ (.dic (.of upd_same) g0 g1 g2) (List.nodup_cons.mpr ⟨fun z => (g4 a z).elim nT nx, g3⟩) fun b hb => by
                    rcases List.mem_cons.mp hb with z | z
                    · exact .inl (z ▸ List.mem_cons_self)
                    · rcases g4 b z with z | z
                      · exact .inl (List.mem_cons_of_mem _ z)
                      · exact .inr (.inl z)
                  exact h2 σ _ S' q
                · cases q2
              · cases q2
            | _ => cases q2
      · exact h2.elim
end
end DL
/-! DL9: a[i] op= e, d.pop(k, x), an index that changes slots, comprehensions as expressions, ranges, a def's body. -/
namespace DL
open PySem PySem.Spec PyProof.Rows L2

section
variable {X : Cx} {md : List Md} {pos pos' cpos apos tpos : Pos} {e o ix a b : Expr} {i : Nat} {pl : List Stp} {U : List Nat} {f g : Env → R M}

/-! ### xs[i] op= e, the items whole numbers -/
theorem get_list : PGet X (rIxL X.K) := fun pins s σ H o i ov iv Q I ro ri h => by
  obtain ⟨p, xs, k, v, rfl, rfl, hq, he, q⟩ := h
  cases ro
  obtain ⟨t, rfl⟩ := ri
  obtain ⟨its, r, pl, hz⟩ := I.list hq
  obtain ⟨j, h1, h2, h3, h4, h5⟩ := atI_get he
  obtain ⟨w, ew, rw'⟩ := r.get h2
  have hl := r.length
  have hn := line63
  have fin : EP X pins σ Q w s := ⟨v, H, I, rw', q⟩
  by_cases h0 : 0 ≤ k
  · have hj : k.toNat = j := by
      rw [seqIndex_of h0 h5] at h1
      exact Option.some.inj h1
    exact wpAny_getItem_list pl.isList h0 (by omega) (by rw [hj]; simpa using ew) fin
  · have hj : (k + (its.toArray.size : Int)).toNat = j := by
      rw [seqIndex_neg (by omega) h4] at h1
      rw [List.size_toArray, ← hl]
      exact Option.some.inj h1
    exact wpAny_getItem_list_neg pl.isList (by omega) (by rw [List.size_toArray] <;> omega) (by omega) (by rw [hj]; simpa using ew) fin
/-- the item, an operation, the store -/
def augItL (i : Nat) (pl : List Stp) (f g : Env → R M) (F : M → M → R M) : Env → R Fl := fun ρ => getV ρ i >>= fun m => match subM m pl with
  | some (.lst l) => g ρ >>= fun k => match k with
    | .im (.int k) => match atI l k with
      | some (.im x) => f ρ >>= fun y => F (.im x) y >>= fun z => setItL (.lst l) (mI k) z >>= fun n' => .ok (.nx (ρ.set i (some (updM m pl n'))))
      | _ => .no
    | _ => .no
  | _ => .no
theorem IsMs.atI' {K : PySem.W.Frag} {H : Hp} {vs : List V} {l : List M} {T : List Addr} {k : Int} {m : M} (is : IsMs K H vs l T) (h : atI l k = some m) : ∃ v Tv, atI vs k = some v ∧ IsM K H v m Tv ∧ Tv.Sublist T := by
  obtain ⟨j, h1⟩ : ∃ j, ixN l.length k = some j ∧ l[j]? = some m := by
    unfold atI at h
    cases q : ixN l.length k with
    | none => rw [q] at h; cases h
    | some j => rw [q] at h; exact ⟨j, rfl, h⟩
  obtain ⟨v, Tv, a, b, c⟩ := is.get h1.2
  refine ⟨v, Tv, ?_, b, c⟩
  unfold atI
  rw [is.length, h1.1]
  exact a
theorem psd_augItL {op : Operator} {F : M → M → R M} (hi : md[i]? = some Md.loc ∨ md[i]? = some Md.io) (ho : PE X o (tP i pl)) (hix : PE X ix (tD X.K U g)) (hv : PE X e (tD X.K [] f)) (hop : PIp X op (rD X.K F))
    (ha : ∀ ov iv new, augStore ix ov iv new = (do holding [new, ov, iv] (setItem ov iv new); release [new, ov, iv] []; pure .next) := by intros; rfl) : PSD X md (.AugAssign (.Subscript o ix tpos) op e pos) (augItL i pl f g F) := fun r hK hmd =>
  (ps_augS ho hix get_list hv hop set_list ha).imp fun D σ H h => by
  obtain ⟨ρ, S, h1, h2⟩ := h
  unfold augItL at h2
  cases q1 : getV ρ i with
  | exc c l => rw [q1] at h2; exact h2.elim
  | no => rw [q1] at h2; exact h2.elim
  | ok m =>
    rw [q1, R.ok_bind] at h2
    split at h2
    · rename_i l hs0
      cases q3 : g ρ with
      | exc c l => rw [q3] at h2; exact h2.elim
      | no => rw [q3] at h2; exact h2.elim
      | ok k =>
        rw [q3, R.ok_bind] at h2
        split at h2
        · rename_i k'
          split at h2
          · rename_i x hat
            cases q : f ρ with
            | exc c l => rw [q] at h2; exact h2.elim
            | no => rw [q] at h2; exact h2.elim
            | ok y =>
              rw [q, R.ok_bind] at h2
              cases q4 : F (.im x) y with
              | exc c l => rw [q4] at h2; exact h2.elim
              | no => rw [q4] at h2; exact h2.elim
              | ok z =>
                rw [q4, R.ok_bind] at h2
                cases q2 : setItL (.lst l) (mI k') z with
                | exc c l => rw [q2] at h2; exact h2.elim
                | no => rw [q2] at h2; exact h2.elim
                | ok n' =>
                  rw [q2] at h2
                  have h1' := h1
                  obtain ⟨v, w, T, e1, e2, e3, e4, e5, e6⟩ := h1.place (by rw [hmd]; exact hi) q1 hs0
                  refine ⟨v, w, e1, e2, ρ, S, _, hK ▸ h1.sl, q3, fun vk H2 Tk ex2 isk _ => ?_⟩
                  cases isk with
                  | im isk =>
                    cases isk
                    cases e3 with
                    | lst hl hr =>
                      rename_i ad xs T
                      obtain ⟨vx, Tv, g1, g2, _⟩ := hr.atI' hat
                      refine ⟨ad, xs, k', vx, rfl, rfl, .of (ex2 _ _ hl), g1, ρ, S, y, hK ▸ h1.sl.ex ex2, q, fun vy H3 Ty ex3 isy fry => ?_⟩
                      have ex23 := ex2.trans ex3
                      refine ⟨.im x, y, Tv, Ty, z, (hK ▸ g2 : IsM X.K H vx (.im x) Tv).ex ex23, isy, q4, fun vz H4 Tz ex4 isz nwz => ?_⟩
                      have ex := ex23.trans ex4
                      have q2 : (match ixN l.length k' with
                        | some j => R.ok (M.lst (l.set j z))
                        | none => .no) = .ok n' := q2
                      split at q2
                      · rename_i j hj
                        cases q2
                        have hl2 := ex _ _ hl
                        refine ⟨ad, xs, k', j, rfl, rfl, hl2, by rw [hr.length]; exact hj, ?_⟩
                        have nTz : ∀ b ∈ Tz, H b = none := fun b hb => fresh_back ex23 (nwz.free b hb)
                        have nd0 := List.nodup_cons.mp e4
                        have ndT : (T ++ Tz).Nodup := List.nodup_append.mpr ⟨nd0.2, nwz.nd, fun c hc d hd q => by
                          subst q
                          obtain ⟨o, y⟩ := h1.there i c (e5 c (List.mem_cons_of_mem _ hc)).2
                          rw [nTz c hd] at y; cases y⟩
                        have nx : ad ∉ Tz := fun y => by
                          have := nTz ad y
                          rw [hl] at this; cases this
                        obtain ⟨T', g2, g3, g4⟩ := IsMs.setIt (((hr.ex ex).upd (o' := .lst (xs.set j vz)) hl2 (fun _ q => nomatch q) (fun _ _ q => nomatch q) nd0.1)) (ixN_lt hj) ((hK ▸ isz : IsM r.K H4 vz z Tz).upd (o' := .lst (xs.set j vz)) hl2 (fun _ q => nomatch q) (fun _ _ q => nomatch q) nx) ndT
                        obtain ⟨S', q, _⟩ := e6 (L2.upd H4 ad (.lst (xs.set j vz))) (.lst (l.set j z)) (ad :: T') ⟨fun b u z y => by
                          rw [upd_ne (show b ≠ ad from fun q => y (q ▸ List.mem_cons_self))]
                          exact ex b u z, (Ex.tk ex).trans (upd_fm (T := [ad]) hl2 (fun _ q => nomatch q) (fun _ _ q => nomatch q) (by simp)).tk⟩ (.lst upd_same g2) (List.nodup_cons.mpr ⟨fun y => (g4 ad y).elim nd0.1 nx, g3⟩) fun b hb => by
                          rcases List.mem_cons.mp hb with z | z
                          · exact .inl (z ▸ List.mem_cons_self)
                          · rcases g4 b z with z | z
                            · exact .inl (List.mem_cons_of_mem _ z)
                            · exact .inr (h1.newApart (nTz b z))
                        exact h2 σ _ S' q
                      · cases q2
          · exact h2.elim
        · exact h2.elim
    · exact h2.elim

/-! ### d.pop(k, x): its value one that never changes -/
def popD : M → List M → R (M × M)
  | .dic l, [k, d] => match keyOf k with
    | some k => match dGet l k with
      | some (.im v) => .ok (.im v, .dic (dDrop l k))
      | some _ => .no
      | none => .ok (d, .dic l)
    | none => .no
  | _, _ => .no
theorem pxd_popD {e2 : Expr} {fa fb : Env → R M} (hi : md[i]? = some Md.loc ∨ md[i]? = some Md.io) (ho : PE X o (tP i pl)) (h1 : PE X e (tD X.K U fa)) (h2 : PE X e2 (tD X.K [] fb)) (m : M2 X o "pop" apos e e2 cpos) :
    PXD X md (.Call (.Attribute o "pop" apos) [e, e2] [] cpos) (fun ρ => (fa ρ >>= fun x => fb ρ >>= fun y => .ok [x, y]) >>= fun ms => plX i pl (fun n => popD n ms) ρ) := fun r hK hmd => (pe_dpop2 ho h1 h2 m).imp fun σ H Q h => by
  obtain ⟨ρ, S, m0, ρ', h1, h2, k⟩ := h
  obtain ⟨ms, h3, h4⟩ := R.bind_ok (show ((fa ρ >>= fun x => fb ρ >>= fun y => .ok [x, y]) >>= fun ms => plX i pl (fun n => popD n ms) ρ) = .ok (m0, ρ') from h2)
  obtain ⟨x, g1, g2⟩ := R.bind_ok h3
  obtain ⟨y, g3, g4⟩ := R.bind_ok g2
  cases g4
  unfold plX at h4
  obtain ⟨mm, h5, h6⟩ := R.bind_ok h4
  split at h6
  · rename_i n hs
    obtain ⟨z, h7, h8⟩ := R.bind_ok h6
    cases h8
    obtain ⟨v, w, T, e1, e2, e3, e4, e5, e6⟩ := h1.place (by rw [hmd]; exact hi) h5 hs
    cases e3 with
    | dic hl hn nk hr =>
      rename_i ad kvs l T
      have hl : H ad = some (.dK kvs) := hl.live (h1.nf (e5 ad List.mem_cons_self).1)
      refine ⟨v, _, e1, e2, ad, rfl, .inl ⟨kvs, .of hl⟩, ρ, S, x, hK ▸ h1.sl, g1, fun vk H1 Tk ex1 isk _ => ⟨ρ, S, y, hK ▸ h1.sl.ex ex1, g3, fun vd H2 Td ex2 isd frd => ?_⟩⟩
      have ex := ex1.trans ex2
      have hl2 := ex _ _ hl
      have nd0 := List.nodup_cons.mp e4
      have h7 : (match keyOf x with
        | some k => match dGet l k with
          | some (.im v) => R.ok (M.im v, M.dic (dDrop l k))
          | some _ => .no
          | none => .ok (y, .dic l)
        | none => .no) = .ok z := h7
      split at h7
      · rename_i kk hk
        obtain rfl := keyOf_is hk isk
        obtain ⟨d1, d2⟩ := dGet_is (k := kk) hn hr nd0.2
        refine ⟨kvs, kk, hl2, rfl, fun v2 hv2 => ?_, fun hno => ?_⟩
        · cases qd : dGet l kk with
          | none => rw [d1 qd] at hv2; cases hv2
          | some mv =>
            rw [qd] at h7
            cases mv with
            | im mv =>
              cases h7
              obtain ⟨v3, Tv, b1, b2, _, _⟩ := d2 _ qd
              rw [hv2] at b1
              cases b1
              obtain ⟨g0, g1', T', g2', g3', g4'⟩ := dDrop_is (k := kk) hn nk (((hr.ex ex).upd (o' := .dK (dropK kvs kk)) hl2 (fun _ q => nomatch q) (fun _ _ q => nomatch q) nd0.1)) nd0.2
              obtain ⟨S', q, _⟩ := e6 (L2.upd H2 ad (.dK (dropK kvs kk))) (.dic (dDrop l kk)) (ad :: T') ⟨fun b u z y => by
                rw [upd_ne (show b ≠ ad from fun q => y (q ▸ List.mem_cons_self))]
                exact ex b u z, (Ex.tk ex).trans (upd_fm (T := [ad]) hl2 (fun _ q => nomatch q) (fun _ _ q => nomatch q) (by simp)).tk⟩ (.dic (.of upd_same) g0 g1' g2') (List.nodup_cons.mpr ⟨fun y => nd0.1 (g4' ad y), g3'⟩) fun b hb => by
                rcases List.mem_cons.mp hb with z | z
                · exact .inl (z ▸ List.mem_cons_self)
                · exact .inl (List.mem_cons_of_mem _ (g4' b z))
              obtain ⟨rfl, b5⟩ := b2.im_nil
              have tk : TK H (L2.upd H2 ad (.dK (dropK kvs kk))) := (Ex.tk ex).trans (upd_fm (T := [ad]) hl2 (fun _ q => nomatch q) (fun _ _ q => nomatch q) (by simp)).tk
              exact k v2 _ S' [] q tk (.im (IsI.keep tk b5)) List.nodup_nil fun _ z => (nomatch z)
            | _ => cases h7
        · cases qd : dGet l kk with
          | some mv =>
            obtain ⟨v3, Tv, b1, _⟩ := d2 _ qd
            rw [hno] at b1
            cases b1
          | none =>
            rw [qd] at h7
            cases h7
            obtain ⟨S', q, q2⟩ := e6 H2 (.dic l) (ad :: T) (Ex.fm ex) (.dic (.of hl2) hn nk (hr.ex ex)) e4 fun b hb => .inl hb
            refine k vd H2 S' Td q (Ex.tk ex) (hK ▸ isd) frd.nd fun b hb => ?_
            have hb0 := fresh_back ex1 (frd.new.free b hb)
            refine ⟨h1.new hb0, fun j hj => ?_⟩
            rcases q2 b j hj with z | ⟨⟨l', z⟩, _⟩
            · obtain ⟨o, q⟩ := h1.there i b (e5 b z).2
              rw [hb0] at q; cases q
            · obtain ⟨o, q⟩ := h1.there l' b z
              rw [hb0] at q; cases q
      · cases h7
    | _ => cases h7
  · cases h6

/-! ### an operation whose left side is read ahead of a change elsewhere -/
theorem wipeS_nil (S : Nat → List Addr) : wipeS [] S = S := by
  funext j
  rfl
theorem Rel.thaw0 {r : Rn} {H : Hp} {σ : L2.St} {ρ : Env} {S : Nat → List Addr} (h : Rel r H σ ρ S) {md' : List Md} (c : Cmp r.md md') (hA : ∀ (j : Nat), md'[j]? ≠ some Md.any) {H' : Hp} {σ' : L2.St} {ρ' : Env} {S' : Nat → List Addr} (h' : Rel (r.fz md' H σ ρ S) H' σ' ρ' S') :
    Rel r H' σ' ρ' S' := by
  have := h.thaw (W := []) c (fun j hj => absurd hj (hA j)) (fun j hj => by simp at hj) h'
  rwa [wipeE_nil, wipeS_nil] at this
/-- what a value of slots U stands on is not of a frozen run's -/
theorem Fr.apart {r : Rn} {H H1 : Hp} {σ : L2.St} {ρ : Env} {S : Nat → List Addr} {md' : List Md} {T : List Addr} (h : Rel r H σ ρ S) (c : Cmp r.md md') (fr : Fr U S H T) (hU : ∀ j ∈ U, ¬ (md'[j]? = some Md.loc ∨ md'[j]? = some Md.io)) : ∀ a ∈ T, a ∉ fzB md' S := fun a ha hb => by
  obtain ⟨k, g1, g2⟩ := mem_fzB.mp hb
  rcases fr.fr a ha with z | ⟨j, hj, z⟩
  · obtain ⟨o, q⟩ := h.there k a g2
    rw [z] at q; cases q
  · by_cases hjk : j = k
    · exact hU j hj (hjk ▸ g1)
    · exact h.sep j k a hjk z g2 (h.own k (c.own g1) a g2)
def opU (fa : Env → R M) (fb : Env → R (I × Env)) (F : M → M → R M) : Env → R (I × Env) := fun ρ => fa ρ >>= fun x => fb ρ >>= fun y => F x (.im y.1) >>= fun z => asI z >>= fun i => .ok (i, y.2)
theorem imp_opU {md' : List Md} {fa : Env → R M} {fb : Env → R (I × Env)} {F : M → M → R M} {r : Rn} {σ : L2.St} {H : Hp} {Q : VK} (c : Cmp r.md md') (hA : ∀ (j : Nat), md'[j]? ≠ some Md.any) (hU : ∀ j ∈ U, ¬ (md'[j]? = some Md.loc ∨ md'[j]? = some Md.io)) (h : tXI r (opU fa fb F) σ H Q) :
    tOp (rD r.K F) (tD r.K U fa) (fun σ H Q => ∃ r', r'.K = r.K ∧ r'.md = md' ∧ tXI r' fb σ H Q) σ H Q := by
  obtain ⟨ρ, S, m, ρ', h1, h2, k⟩ := h
  obtain ⟨x, h3, h4⟩ := R.bind_ok (show (fa ρ >>= fun x => fb ρ >>= fun y => F x (.im y.1) >>= fun z => asI z >>= fun i => .ok (i, y.2)) = .ok (m, ρ') from h2)
  obtain ⟨⟨y, ρ2⟩, h5, h6⟩ := R.bind_ok h4
  obtain ⟨z, h7, h8⟩ := R.bind_ok h6
  obtain ⟨j, h9, h10⟩ := R.bind_ok h8
  cases h10
  cases z with
  | im z =>
    cases h9
    refine ⟨ρ, S, x, h1.sl, h3, fun v H1 T ex is fr => ?_⟩
    have h1' := h1.ex ex
    refine ⟨r.fz md' H1 σ ρ S, rfl, rfl, ρ, S, y, ρ2, h1'.fz c, h5, fun w H2 S2 g2 tk2 is2 => ?_⟩
    have ap := Fr.apart (H1 := H1) h1 c fr hU
    exact ⟨x, .im y, T, [], .im m, is.fm g2.fm ap, .im is2, h7, fun u H3 T3 ex3 is3 nw => k u H3 S2 ((h1'.thaw0 c hA g2).ex ex3) (((Ex.tk ex).trans tk2).trans (Ex.tk ex3)) is3.im_nil.2⟩
  | _ => cases h9
theorem pe_anyXI {fb : Env → R (I × Env)} {md' : List Md} {K : PySem.W.Frag} (hK : K = X.K) (h : PXI X md' b fb) : PE X b (fun σ H Q => ∃ r' : Rn, r'.K = K ∧ r'.md = md' ∧ tXI r' fb σ H Q) := ⟨fun pins s σ H Q I q => by
  obtain ⟨r', h1, h2, q⟩ := q
  exact (h r' (h1.trans hK) h2).run pins s σ H Q I q⟩
/-- a[b], a read, b one that changes other slots -/
theorem pxi_ixU {md' : List Md} {fa : Env → R M} {fb : Env → R (I × Env)} {F : M → M → R M} (c : Cmp md md') (hA : ∀ (j : Nat), md'[j]? ≠ some Md.any) (hU : ∀ j ∈ U, ¬ (md'[j]? = some Md.loc ∨ md'[j]? = some Md.io)) (hr : IxR X (rD X.K F)) (ha : PE X a (tD X.K U fa)) (hb : PXI X md' b fb) (hs : PlainIx b) :
    PXI X md (.Subscript a b pos) (opU fa fb F) := fun r hK hmd => (pe_ix (show IxR X (rD r.K F) from hK ▸ hr) (show PE X a (tD r.K U fa) from hK ▸ ha) (pe_anyXI hK hb) hs).imp fun σ H Q h => imp_opU (by rw [hmd]; exact c) hA hU h
theorem pd_ix {Ua Ub : List Nat} {fa fb : Env → R M} {F : M → M → R M} (hr : IxR X (rD X.K F)) (ha : PE X a (tD X.K Ua fa)) (hb : PE X b (tD X.K Ub fb)) (hs : PlainIx b) : PE X (.Subscript a b pos) (tD X.K [] fun ρ => fa ρ >>= fun x => fb ρ >>= fun y => F x y) :=
  (pe_ix hr ha hb hs).imp fun _ _ _ h => imp_op h

/-! ### comprehensions as expressions -/
variable {elt tg iter : Expr} {ifs : List Expr} {scope : Scope} {own : List (Str × Nat)}
theorem pd_lc {fi : Env → R (List M)} {gt : M → Env → R Env} {ft : Env → R Bool} {fe : Env → R M} (hc : X.calm = true) (hN : X.N.Nodup) (ok : BlkOk X.N X.env.scope scope own) (hi : PI X tg iter (tI X.K U fi))
    (hg : ∀ (s : Shared) (H : Hp) (C : Addr) (cl : List (Str × Addr)) (fp : List Addr), PG (X.blk s H scope (compEnvC scope cl C X.env) fp) tg (tGS X.K (own.map (·.2)) gt)) (ht : ∀ (s : Shared) (H : Hp) (C : Addr) (cl : List (Str × Addr)) (fp : List Addr), PTs (X.blk s H scope (compEnvC scope cl C X.env) fp) ifs (tDT X.K ft))
    (he : ∀ (s : Shared) (H : Hp) (C : Addr) (cl : List (Str × Addr)) (fp : List Addr), PE (X.blk s H scope (compEnvC scope cl C X.env) fp) elt (tD X.K [] fe)) (hs : ∀ x, foldedSetIterable iter X.env x = pure x := by intro _; rfl) :
    PE X (.ListComp elt [⟨tg, iter, ifs, 0⟩] scope pos) (tD X.K [] (lcM (own.map (·.2)) fi gt ft fe)) := (pe_lc hc hN hi ok hg ht he hs).imp fun _ _ _ h => imp_lc h
theorem psd_setLc {j : Nat} {y : Str} {py spos : Pos} {fi : Env → R (List M)} {gt : M → Env → R Env} {ft : Env → R Bool} {fe : Env → R M} (hc : X.calm = true) (hN : X.N.Nodup) (hy : X.N[j]? = some y) (hyl : X.env.scope.names.lookup y = some .local) (hm : md[j]? = some Md.loc ∨ md[j]? = some Md.any)
    (hsw : swapsWith (.ListComp elt [⟨tg, iter, ifs, 0⟩] scope pos) (some (.Name y py)) spos.line X.env = pure true) (ok : BlkOk X.N X.env.scope scope own) (hi : PI X tg iter (tI X.K U fi))
    (hg : ∀ (s : Shared) (H : Hp) (C : Addr) (cl : List (Str × Addr)) (fp : List Addr), PG (X.blk s H scope (compEnvC scope cl C X.env) fp) tg (tGS X.K (own.map (·.2)) gt)) (ht : ∀ (s : Shared) (H : Hp) (C : Addr) (cl : List (Str × Addr)) (fp : List Addr), PTs (X.blk s H scope (compEnvC scope cl C X.env) fp) ifs (tDT X.K ft))
    (he : ∀ (s : Shared) (H : Hp) (C : Addr) (cl : List (Str × Addr)) (fp : List Addr), PE (X.blk s H scope (compEnvC scope cl C X.env) fp) elt (tD X.K [] fe)) (hs : ∀ x, foldedSetIterable iter X.env x = pure x := by intro _; rfl) :
    PSD X md (.Assign [.Name y py] (.ListComp elt [⟨tg, iter, ifs, 0⟩] scope pos) spos) (setS j (lcM (own.map (·.2)) fi gt ft fe)) := fun r hK hmd => (ps_setLc hc hN hy hyl hsw hi ok hg ht he hs).imp fun D σ H h => by
  obtain ⟨ρ, S, h1, h2⟩ := h
  unfold setS at h2
  cases q : lcM (own.map (·.2)) fi gt ft fe ρ with
  | ok m =>
    rw [q] at h2
    exact imp_lc (X := X) ⟨ρ, S, m, hK ▸ h1.sl, q, fun v H2 T e is fr => h2 _ _ _ (h1.set e (by rw [hmd]; exact hm) (hK ▸ is) fr.new)⟩
  | exc c l => rw [q] at h2; exact h2.elim
  | no => rw [q] at h2; exact h2.elim

/-! ### ranges -/
def rngM (lo hi : Int) : List M := (List.range (hi - lo).toNat).map fun i => mI (lo + (i : Nat))
def rngFit (lo hi : Int) : Bool := decide (-(2 ^ 62) ≤ lo) && decide (lo < 2 ^ 62) && decide (-(2 ^ 62) ≤ hi) && decide (hi < 2 ^ 62)
def rng1 : List M → R (List M)
  | [.im (.int j)] => if rngFit 0 j then .ok (rngM 0 j) else .no
  | _ => .no
def rng2 : List M → R (List M)
  | [.im (.int i), .im (.int j)] => if rngFit i j then .ok (rngM i j) else .no
  | _ => .no
theorem rngM_length {lo hi : Int} : (rngM lo hi).length = (hi - lo).toNat := by simp [rngM]
theorem sq_range {K : PySem.W.Frag} {H : Hp} {lo hi : Int} : Sq K (Itr lo (hi - lo).toNat) H [] (rngM lo hi) :=
  ⟨fun _ => True, _, (by
    rw [rngM_length]
    exact walk_range), fun _ _ _ => trivial, fun j H x H' hj _ _ h => by
    obtain ⟨rfl, rfl⟩ := h
    rw [rngM_length] at hj
    refine ⟨Ex.refl _, mI (lo + (j : Nat)), [], ?_, .im .int, List.nodup_nil, fun _ z => (nomatch z)⟩
    unfold rngM
    rw [List.getElem?_map, List.getElem?_range hj]
    rfl⟩
theorem rngFit_is {lo hi : Int} (h : rngFit lo hi = true) : -(2 ^ 62) ≤ lo ∧ lo < 2 ^ 62 ∧ -(2 ^ 62) ≤ hi ∧ hi < 2 ^ 62 := by
  unfold rngFit at h
  simp only [Bool.and_eq_true, decide_eq_true_eq] at h
  exact ⟨h.1.1.1, h.1.1.2, h.1.2, h.2⟩
theorem rng1_is {ms xs : List M} (h : rng1 ms = .ok xs) : ∃ j, ms = [mI j] ∧ rngFit 0 j = true ∧ xs = rngM 0 j := by
  unfold rng1 at h
  split at h
  · rename_i j
    split at h
    · rename_i hf
      cases h
      exact ⟨j, rfl, hf, rfl⟩
    · cases h
  · cases h
theorem rng2_is {ms xs : List M} (h : rng2 ms = .ok xs) : ∃ i j, ms = [mI i, mI j] ∧ rngFit i j = true ∧ xs = rngM i j := by
  unfold rng2 at h
  split at h
  · rename_i i j
    split at h
    · rename_i hf
      cases h
      exact ⟨i, j, rfl, hf, rfl⟩
    · cases h
  · cases h
theorem ars_int {K : PySem.W.Frag} {H : Hp} {vs : List V} {j : Int} {Ts : List (List Addr)} (h : Ars K H vs [mI j] Ts) : vs = [.int j] := by
  cases h with
  | cons h _ r =>
    cases r
    obtain ⟨_, h⟩ := h.im_nil
    cases h
    rfl
theorem ars_int2 {K : PySem.W.Frag} {H : Hp} {vs : List V} {i j : Int} {Ts : List (List Addr)} (h : Ars K H vs [mI i, mI j] Ts) : vs = [.int i, .int j] := by
  cases h with
  | cons h _ r =>
    obtain ⟨_, h⟩ := h.im_nil
    cases h
    rw [ars_int r]
theorem pid_range1 {a : Expr} {p pos : Pos} {G : Env → R (List M)} (hg : Gl X "range") (hm : X.mg "range" = none) (ha : PA X [a] (tDA X.K U G)) (hs : starEach [a] X.env = [(false, eval a X.env)] := by rfl) : PI X tg (.Call (.Name "range" p) [a] [] pos) (tI X.K [] fun ρ => G ρ >>= rng1) := (pi_range1 hg hm ha hs).imp fun σ H Rr h => by
  obtain ⟨ρ, S, ms, sl, hm, k⟩ := h
  obtain ⟨x, h1, h2⟩ := R.bind_ok hm
  obtain ⟨j, rfl, hf, rfl⟩ := rng1_is h2
  obtain ⟨_, _, f3, f4⟩ := rngFit_is hf
  refine ⟨ρ, S, _, sl, h1, fun vs H2 Ts e ars _ => ⟨j, ars_int ars, f3, f4, ?_⟩⟩
  have := k (Itr 0 (j - 0).toNat) H2 [] e sq_range fun _ z => (nomatch z)
  simpa using this
theorem pid_range2 {a b : Expr} {p pos : Pos} {G : Env → R (List M)} (hg : Gl X "range") (hm : X.mg "range" = none) (ha : PA X [a, b] (tDA X.K U G)) (hs : starEach [a, b] X.env = [(false, eval a X.env), (false, eval b X.env)] := by rfl) (hs2 : starEach [b] X.env = [(false, eval b X.env)] := by rfl) :
    PI X tg (.Call (.Name "range" p) [a, b] [] pos) (tI X.K [] fun ρ => G ρ >>= rng2) := (pi_range2 hg hm ha hs hs2).imp fun σ H Rr h => by
  obtain ⟨ρ, S, ms, sl, hm, k⟩ := h
  obtain ⟨x, h1, h2⟩ := R.bind_ok hm
  obtain ⟨i, j, rfl, hf, rfl⟩ := rng2_is h2
  exact ⟨ρ, S, _, sl, h1, fun vs H2 Ts e ars _ => ⟨i, j, ars_int2 ars, rngFit_is hf, k _ H2 [] e sq_range fun _ z => (nomatch z)⟩⟩
/-- .. of arguments that change slots -/
theorem pixd_range1 {a : Expr} {p pos : Pos} {G : Env → R (List I × Env)} (hg : Gl X "range") (hm : X.mg "range" = none) (ha : PXA X md [a] G) (hs : starEach [a] X.env = [(false, eval a X.env)] := by rfl) :
    PIX X md [] tg (.Call (.Name "range" p) [a] [] pos) (fun ρ => G ρ >>= fun x => rng1 (x.1.map .im) >>= fun ms => .ok (ms, x.2)) := fun r hK hmd => (pi_range1 hg hm (ha r hK hmd) hs).imp fun σ H Rr h => by
  obtain ⟨ρ, S, ms, ρ', h1, h2, k⟩ := h
  obtain ⟨⟨x, ρ2⟩, h3, h4⟩ := R.bind_ok h2
  obtain ⟨y, h5, h6⟩ := R.bind_ok h4
  cases h6
  obtain ⟨j, e1, hf, rfl⟩ := rng1_is h5
  obtain ⟨_, _, f3, f4⟩ := rngFit_is hf
  refine ⟨ρ, S, x, ρ2, h1, h3, fun vs H2 S2 h7 tk7 is => ⟨j, ?_, f3, f4, ?_⟩⟩
  · have := ars_ims is
    rw [show x.map M.im = [mI j] from e1] at this
    exact ars_int this
  · have := k (Itr 0 (j - 0).toNat) H2 S2 [] h7 tk7 sq_range fun _ z => (nomatch z)
    simpa using this

/-! ### a def's body -/
def retF : R Fl → R M
  | .ok (.rt m _) => .ok m
  | .ok (.nx _) => .ok mN
  | .ok _ => .no
  | .exc c l => .exc c l
  | .no => .no
def retFX : R Fl → R (M × M)
  | .ok (.rt m ρ) => getV ρ 0 >>= fun s => .ok (m, s)
  | .ok (.nx ρ) => getV ρ 0 >>= fun s => .ok (mN, s)
  | .ok _ => .no
  | .exc c l => .exc c l
  | .no => .no
/-- the slots at a def's start -/
def env0 (n : Nat) (ms : List M) : Env := ms.map some ++ List.replicate (n - ms.length) none
def defP (np n : Nat) (f : Env → R Fl) (ms : List M) : R M := if ms.length = np then retF (f (env0 n ms)) else .no
def defX (np n : Nat) (f : Env → R Fl) (m0 : M) (ms : List M) : R (M × M) := if ms.length + 1 = np then retFX (f (env0 n (m0 :: ms))) else .no
theorem Ars.length {K : PySem.W.Frag} {H : Hp} : ∀ {vs : List V} {ms : List M} {Ts : List (List Addr)}, Ars K H vs ms Ts → vs.length = ms.length ∧ Ts.length = ms.length
  | _, _, _, .nil => ⟨rfl, rfl⟩
  | _, _, _, .cons _ _ r => by
    obtain ⟨a, b⟩ := Ars.length r
    exact ⟨by simp [a], by simp [b]⟩
theorem Ars.at {K : PySem.W.Frag} {H : Hp} : ∀ {vs : List V} {ms : List M} {Ts : List (List Addr)} {i : Nat} {m : M}, Ars K H vs ms Ts → ms[i]? = some m → ∃ v T, vs[i]? = some v ∧ Ts[i]? = some T ∧ IsM K H v m T ∧ T.Nodup
  | _, _, _, i, m, .nil, h => by simp at h
  | _, _, _, 0, m, .cons h n r, e => by
    have e : _ = m := Option.some.inj e
    subst e
    exact ⟨_, _, rfl, rfl, h, n⟩
  | _, _, _, i + 1, m, .cons h n r, e => Ars.at (i := i) (m := m) r e
end
def footS (Ts : List (List Addr)) : Nat → List Addr := fun i => (Ts[i]?).getD []
theorem footS_at {Ts : List (List Addr)} {i : Nat} {a : Addr} (h : a ∈ footS Ts i) : ∃ T, Ts[i]? = some T ∧ a ∈ T := by
  unfold footS at h
  cases q : Ts[i]? with
  | none => rw [q] at h; cases h
  | some T => rw [q] at h; exact ⟨T, rfl, h⟩
theorem start_slots {K : PySem.W.Frag} {H : Hp} {N : List Str} {vs : List V} {ms : List M} {Ts : List (List Addr)} (h : Ars K H vs ms Ts) (hl : ms.length ≤ N.length) : Slots K H (L2.start N vs) (env0 N.length ms) (footS Ts) ∧ ∀ (i : Nat), ∀ a ∈ footS Ts i, (∃ o, H a = some o) ∧ i < ms.length := by
  obtain ⟨l1, l2⟩ := h.length
  have ts : ∀ (i : Nat) (T : List Addr), Ts[i]? = some T → ∃ v m, vs[i]? = some v ∧ ms[i]? = some m ∧ IsM K H v m T ∧ T.Nodup := fun i T q => by
    have hi := (List.getElem?_eq_some_iff.mp q).1
    obtain ⟨v, T', h1, h2, h3, h4⟩ := h.at (i := i) (m := ms[i]'(by omega)) (List.getElem?_eq_getElem (by omega))
    rw [q] at h2
    cases h2
    exact ⟨v, _, h1, List.getElem?_eq_getElem (by omega), h3, h4⟩
  refine ⟨⟨by unfold L2.start env0; simp [l1], fun i => ?_, fun i hi => ?_, fun i m q => ?_⟩, fun i a ha => ?_⟩
  · unfold footS
    cases q : Ts[i]? with
    | none => exact List.nodup_nil
    | some T =>
      obtain ⟨_, _, _, _, _, nd⟩ := ts i T q
      exact nd
  · unfold footS
    rw [List.getElem?_eq_none]
    · rfl
    · unfold env0 at hi
      simp at hi
      omega
  · by_cases hi : i < ms.length
    · have e : (env0 N.length ms)[i]? = some (some ms[i]) := by
        unfold env0
        rw [List.getElem?_append_left (by simpa using hi), List.getElem?_map, List.getElem?_eq_getElem hi]
        rfl
      rw [e] at q
      have q : some ms[i] = some m := Option.some.inj q
      cases q
      obtain ⟨v, T, h1, h2, h3, _⟩ := h.at (i := i) (List.getElem?_eq_getElem hi)
      refine ⟨v, ?_, ?_⟩
      · unfold L2.start
        have hv := (List.getElem?_eq_some_iff.mp h1).1
        rw [List.getElem?_append_left (by simpa using hv), List.getElem?_map, h1]
        rfl
      · unfold footS
        rw [h2]
        exact h3
    · have e : ∀ x, (env0 N.length ms)[i]? ≠ some (some x) := fun x z => by
        unfold env0 at z
        rw [List.getElem?_append_right (by simpa using hi), List.getElem?_replicate] at z
        split at z
        · cases z
        · cases z
      exact absurd q (e m)
  · obtain ⟨T, q, hT⟩ := footS_at ha
    obtain ⟨v, m, h1, h2, h3, _⟩ := ts i T q
    exact ⟨h3.there a hT, (List.getElem?_eq_some_iff.mp h2).1⟩
section
variable {P : Program} {w : World} {K : PySem.W.Frag} {mg : Str → Option Value} {base : Heap} {x qual : Str} {st : Stmt} {f : Addr} {fd : FuncData} {N ps : List Str} {k : Nat} {md : List Md} {fb : Env → R Fl}
theorem fn_pure (Fu : Fun K x qual st f fd) (Sc : FnScope N ps (defScope st)) (hmd : md.length = N.length) (hp : ps.length ≤ N.length) (hpar : ∀ i, i < ps.length → ¬ (md[i]? = some Md.loc ∨ md[i]? = some Md.io))
    (body : ∀ (cdv : Value) (A : Around) (outer : List PySem.Env) (s : Shared) (H : Hp) (E : XK), Room k (A.deeper (envOfC qual (defScope st) s.heap.objs.size f cdv)) → PSsD (cxOf CX0 P w K mg base N qual (defScope st) f cdv A outer s H E).nox md (defBody st) fb) :
    FnOk P w K mg base CX0 (k + 1) f fd ps (spP K (defP ps.length N.length fb)) := by
  refine Fu.ok Sc (fun vs H Q E h => ?_) (fun cdv A outer s H vs Q E hr h => ?_)
  · obtain ⟨ms, Ts, r, h1, h2, _⟩ := h
    unfold defP at h2
    split at h2
    · rename_i e
      rw [h1.length.1, e]
    · cases h2
  · obtain ⟨ms, Ts, r0, h1, h2, kk⟩ := h
    unfold defP at h2
    split at h2
    · rename_i e
      let r : Rn := { K := K, H0 := H, B := [], md := md, σ1 := L2.start N vs, ρ1 := env0 N.length ms, S1 := footS Ts }
      obtain ⟨sl, tr⟩ := start_slots h1 (N := N) (by omega)
      have hown : ∀ a, r.Own a → H a = none := fun a o => o.elim id fun z => by cases z
      have hrel : Rel r H (L2.start N vs) (env0 N.length ms) (footS Ts) := by
        refine ⟨sl, ?_, Fm.refl _ _, fun i a ha => (tr i a ha).1, fun i j a _ ha _ o => ?_, fun i hi a ha => ?_, fun i hi => rfl, fun i hi => ⟨rfl, rfl, rfl⟩, fun a ha => (nomatch ha)⟩
        · show md.length = _
          rw [hmd]
          unfold env0
          simp
          omega
        · obtain ⟨o', q⟩ := (tr i a ha).1
          rw [hown a o] at q; cases q
        · exact absurd hi (hpar i (by have := (tr i a ha).2; omega))
      refine ⟨_, body cdv A outer s H E hr r rfl rfl, env0 N.length ms, footS Ts, hrel, ?_⟩
      unfold retF at h2
      split at h2
      · rename_i m ρ q
        cases h2
        rw [q]
        exact fun v σ H' S T h3 is ro => kk v H' T h3.fm.ex is ⟨fun a ha => hown a (ro.own a ha), ro.nd⟩
      · rename_i ρ q
        cases h2
        rw [q]
        exact fun σ H' S h3 => kk .non H' [] h3.fm.ex (.im .non) .nil
      · cases h2
      · cases h2
      · cases h2
    · cases h2
theorem fn_io (Fu : Fun K x qual st f fd) (Sc : FnScope N ps (defScope st)) (hmd : md.length = N.length) (hp : ps.length ≤ N.length) (h0 : md[0]? = some Md.io) (hpar : ∀ i, 0 < i → i < ps.length → ¬ (md[i]? = some Md.loc ∨ md[i]? = some Md.io))
    (body : ∀ (cdv : Value) (A : Around) (outer : List PySem.Env) (s : Shared) (H : Hp) (E : XK), Room k (A.deeper (envOfC qual (defScope st) s.heap.objs.size f cdv)) → PSsD (cxOf CX0 P w K mg base N qual (defScope st) f cdv A outer s H E).nox md (defBody st) fb) :
    FnOk P w K mg base CX0 (k + 1) f fd ps (spX K (defX ps.length N.length fb)) := by
  refine Fu.ok Sc (fun vs H Q E h => ?_) (fun cdv A outer s H vs Q E hr h => ?_)
  · obtain ⟨v0, vr, m0, ms, S0, Ts, r0, m0', rfl, h1, h2, _, h3, h4, h5, _⟩ := h
    unfold defX at h5
    split at h5
    · rename_i e
      rw [List.length_cons, h3.length.1, e]
    · cases h5
  · obtain ⟨v0, vr, m0, ms, S0, Ts, r0, m0', rfl, h1, h2, hnf, h3, h4, h5, kk⟩ := h
    unfold defX at h5
    split at h5
    · rename_i e
      let r : Rn := { K := K, H0 := H, B := S0, md := md, σ1 := L2.start N (v0 :: vr), ρ1 := env0 N.length (m0 :: ms), S1 := footS (S0 :: Ts) }
      have hl : (m0 :: ms).length ≤ N.length := by simp; omega
      obtain ⟨sl, tr⟩ := start_slots (Ars.cons h1 h2 h3) (N := N) hl
      have f0 : footS (S0 :: Ts) 0 = S0 := rfl
      have fS : ∀ i a, 0 < i → a ∈ footS (S0 :: Ts) i → a ∉ S0 := fun i a hi ha => by
        obtain ⟨T, q, hT⟩ := footS_at ha
        obtain ⟨j, rfl⟩ : ∃ j, i = j + 1 := ⟨i - 1, by omega⟩
        exact h4 a (List.mem_flatten.mpr ⟨T, List.mem_of_getElem? (by simpa using q), hT⟩)
      have hrel : Rel r H (L2.start N (v0 :: vr)) (env0 N.length (m0 :: ms)) (footS (S0 :: Ts)) := by
        refine ⟨sl, ?_, Fm.refl _ _, fun i a ha => (tr i a ha).1, fun i j a hij ha hb o => ?_, fun i hi a ha => ?_, fun i hi => rfl, fun i hi => ⟨rfl, rfl, rfl⟩, hnf⟩
        · show md.length = _
          rw [hmd]
          unfold env0
          simp
          omega
        · have oS : a ∈ S0 := by
            rcases o with z | z
            · obtain ⟨o', q⟩ := (tr i a ha).1
              have z : H a = none := z
              rw [z] at q; cases q
            · exact z
          rcases Nat.eq_zero_or_pos i with z | z
          · subst z
            exact fS j a (by omega) hb oS
          · exact fS i a z ha oS
        · rcases Nat.eq_zero_or_pos i with z | z
          · subst z
            exact .inr ha
          · exact absurd hi (hpar i z (by have := (tr i a ha).2; simp at this; omega))
      have s0 : (L2.start N (v0 :: vr))[0]? = some (some v0) := rfl
      have io : ∀ {σ : L2.St} {H' : Hp} {ρ : Env} {S : Nat → List Addr} {m : M}, Rel r H' σ ρ S → getV ρ 0 = .ok m → IsM K H' v0 m (S 0) ∧ ∀ a ∈ S 0, a ∈ S0 ∨ H a = none := fun {σ H' ρ S m} h6 h7 => by
        unfold getV at h7
        split at h7
        · rename_i m' e'
          cases h7
          obtain ⟨v, e1, e2⟩ := h6.sl.at_ 0 m e'
          have := h6.io 0 h0
          rw [e1] at this
          have this : some (some v) = some (some v0) := this
          cases this
          exact ⟨e2, fun a ha => (h6.own 0 (.inr h0) a ha).symm.imp id id⟩
        · cases h7
      refine ⟨_, body cdv A outer s H E hr r rfl rfl, env0 N.length (m0 :: ms), footS (S0 :: Ts), hrel, ?_⟩
      unfold retFX at h5
      split at h5
      · rename_i m ρ q
        obtain ⟨y, h6, h7⟩ := R.bind_ok h5
        cases h7
        rw [q]
        exact fun v σ H' S T h8 is ro => let ⟨i1, i2⟩ := io h8 h6; kk v H' T (S 0) h8.fm is i1 ro.nd (h8.sl.nd 0) (fun a ha => ⟨ro.own a ha, ro.io 0 h0 a ha⟩) i2
      · rename_i ρ q
        obtain ⟨y, h6, h7⟩ := R.bind_ok h5
        cases h7
        rw [q]
        exact fun σ H' S h8 => let ⟨i1, i2⟩ := io h8 h6; kk .non H' [] (S 0) h8.fm (.im .non) i1 List.nodup_nil (h8.sl.nd 0) (fun a ha => (nomatch ha)) i2
      · cases h5
      · cases h5
      · cases h5
    · cases h5
end
end DL
/-! DL10: the operators on plain data. -/
namespace DL
open PySem PySem.Spec PyProof.Rows L2

section
variable {K : PySem.W.Frag} {H : Hp} {v : V} {S : List Addr}
theorem IsM.int {i : Int} (h : IsM K H v (.im (.int i)) S) : v = .int i := by
  obtain ⟨_, h⟩ := h.im_nil
  cases h; rfl
theorem IsM.str {i : Str} (h : IsM K H v (.im (.str i)) S) : v = .str i := by
  obtain ⟨_, h⟩ := h.im_nil
  cases h; rfl
theorem IsM.bl {i : Bool} (h : IsM K H v (.im (.bl i)) S) : v = .bl i := by
  obtain ⟨_, h⟩ := h.im_nil
  cases h; rfl
theorem IsM.non (h : IsM K H v (.im .non) S) : v = .non := by
  obtain ⟨_, h⟩ := h.im_nil
  cases h; rfl
theorem IsM.tup {l : List I} (h : IsM K H v (.im (.tup l)) S) : ∃ a vs, v = .ref a ∧ SqT K H a vs ∧ IsIs K H vs l := by
  obtain ⟨_, h⟩ := h.im_nil
  cases h with
  | tup a b => exact ⟨_, _, rfl, a, b⟩
theorem IsM.lst' {l : List M} (h : IsM K H v (.lst l) S) : ∃ a vs T, v = .ref a ∧ H a = some (.lst vs) ∧ IsMs K H vs l T ∧ S = a :: T := by
  cases h with
  | lst a b => exact ⟨_, _, _, rfl, a, b, rfl⟩
theorem IsM.dic' {l : List (Key × M)} (h : IsM K H v (.dic l) S) : ∃ a kvs T, v = .ref a ∧ Rd H a (.dK kvs) ∧ kvs.map (·.1) = l.map (·.1) ∧ (l.map (·.1)).Nodup ∧ IsMs K H (kvs.map (·.2)) (l.map (·.2)) T ∧ S = a :: T := by
  cases h with
  | dic a b c d => exact ⟨_, _, _, rfl, a, b, c, d, rfl⟩
end
theorem IsI.im' {K : PySem.W.Frag} {H : Hp} {v : V} {i : I} (h : IsI K H v i) : IsM K H v (.im i) [] := .im h
theorem laid_im {K : PySem.W.Frag} {H : Hp} {p : Addr} {vs : List V} {l : List I} (h : IsIs K H vs l) (hp : H p = none) : IsM K (L2.upd H p (.tup vs)) (.ref p) (.im (.tup l)) [] :=
  .im (.tup (.of upd_same) (h.keep (Ex.tk (Ex.new hp))))

section
variable {X : Cx}
theorem op_of {f : Value → Value → Sem Value} {r0 : R2} {g : M → M → R M} (h0 : OpR X f r0) (h : ∀ x y H Q, rD X.K g x y H Q → r0 x y H Q) : OpR X f (rD X.K g) := fun pins s σ H x y v u Q I rx ry q => h0 pins s σ H x y v u Q I rx ry (h x y H Q q)
theorem ix_of {r0 : R2} {g : M → M → R M} (h0 : IxR X r0) (h : ∀ x y H Q, rD X.K g x y H Q → r0 x y H Q) : IxR X (rD X.K g) := fun va sl pins s σ H x y v u Q I rx ry q => h0 va sl pins s σ H x y v u Q I rx ry (h x y H Q q)
theorem cr_of {f : Value} {r0 : List V → Hp → VK → Prop} {g : List M → R M} (h0 : CallR X f r0) (h : ∀ x H Q, rDC X.K g x H Q → r0 x H Q) : CallR X f (rDC X.K g) := fun pins s σ H x v Q I rx q => h0 pins s σ H x v Q I rx (h x H Q q)
theorem un_of {f : Value → Sem Value} {r0 : V → Hp → VK → Prop} {g : M → R M} (h0 : UnR X f r0) (h : ∀ x H Q, rDU X.K g x H Q → r0 x H Q) : UnR X f (rDU X.K g) := fun pins s σ H x v Q I rx q => h0 pins s σ H x v Q I rx (h x H Q q)

/-! ### whole numbers -/
def onI (C : Int → Int → Bool) (g : Int → Int → M) : M → M → R M
  | .im (.int i), .im (.int j) => if C i j then .ok (g i j) else .no
  | _, _ => .no
theorem onI_is {C : Int → Int → Bool} {g : Int → Int → M} {m n r : M} (h : onI C g m n = .ok r) : ∃ i j, m = mI i ∧ n = mI j ∧ C i j = true ∧ r = g i j := by
  unfold onI at h
  split at h
  · rename_i i j
    split at h
    · rename_i hc
      cases h
      exact ⟨i, j, rfl, rfl, hc, rfl⟩
    · cases h
  · cases h
theorem op_onI {f : Value → Value → Sem Value} {C : Int → Int → Bool} {P : Int → Int → Prop} {g : Int → Int → I} {gv : Int → Int → V} (h0 : OpR X f (rI P gv)) (hP : ∀ i j, C i j = true → P i j) (hg : ∀ H i j, IsI X.K H (gv i j) (g i j)) : OpR X f (rD X.K (onI C fun i j => .im (g i j))) :=
  op_of h0 fun x y H Q q => by
    obtain ⟨m, n, S, T, r, h1, h2, h3, k⟩ := q
    obtain ⟨i, j, rfl, rfl, hc, rfl⟩ := onI_is h3
    exact ⟨i, j, h1.int, h2.int, hP i j hc, k _ H [] (Ex.refl H) (.im (hg H i j)) .nil⟩
theorem op_onI0 {f : Value → Value → Sem Value} {g : Int → Int → I} {gv : Int → Int → V} (h0 : OpR X f (rI0 gv)) (hg : ∀ H i j, IsI X.K H (gv i j) (g i j)) : OpR X f (rD X.K (onI (fun _ _ => true) fun i j => .im (g i j))) :=
  op_of h0 fun x y H Q q => by
    obtain ⟨m, n, S, T, r, h1, h2, h3, k⟩ := q
    obtain ⟨i, j, rfl, rfl, hc, rfl⟩ := onI_is h3
    exact ⟨i, j, h1.int, h2.int, k _ H [] (Ex.refl H) (.im (hg H i j)) .nil⟩
abbrev oSub : M → M → R M := onI (fun _ _ => true) fun i j => mI (i - j)
theorem o_sub : OpR X (binaryOp .Sub) (rD X.K oSub) := op_onI0 op_sub fun _ _ _ => .int
theorem io_sub : OpR X (inplaceOp .Sub) (rD X.K oSub) := op_onI0 iop_sub fun _ _ _ => .int
abbrev oAddI : M → M → R M := onI (fun _ _ => true) fun i j => mI (i + j)
theorem io_addI : OpR X (inplaceOp .Add) (rD X.K oAddI) := op_onI0 iop_add fun _ _ _ => .int
def fitI (i : Int) : Bool := decide (-(2 ^ 64) < i) && decide (i < 2 ^ 64)
abbrev oMul : M → M → R M := onI (fun i j => fitI i || fitI j) fun i j => mI (i * j)
theorem cmul_by {i j : Int} (h : (fitI i || fitI j) = true) : CMul i j := by
  unfold fitI at h
  simp only [Bool.or_eq_true, Bool.and_eq_true, decide_eq_true_eq] at h
  exact h
theorem o_mulI : OpR X (binaryOp .Mult) (rD X.K oMul) := op_onI op_mul (fun _ _ h => cmul_by h) fun _ _ _ => .int
theorem io_mulI : OpR X (inplaceOp .Mult) (rD X.K oMul) := op_onI iop_mul (fun _ _ h => cmul_by h) fun _ _ _ => .int
abbrev oMod : M → M → R M := onI (fun _ j => decide (0 < j)) fun i j => mI (i % j)
theorem o_mod : OpR X (binaryOp .Mod) (rD X.K oMod) := op_onI op_mod (fun _ _ h => of_decide_eq_true h) fun _ _ _ => .int
theorem io_mod : OpR X (inplaceOp .Mod) (rD X.K oMod) := op_onI iop_mod (fun _ _ h => of_decide_eq_true h) fun _ _ _ => .int
abbrev oDiv : M → M → R M := onI (fun _ j => decide (0 < j) && decide (j < 1073741824)) fun i j => mI (i / j)
theorem o_div : OpR X (binaryOp .FloorDiv) (rD X.K oDiv) := op_onI op_fdiv (fun _ _ h => by
  simp only [Bool.and_eq_true, decide_eq_true_eq] at h
  exact h) fun _ _ _ => .int
theorem io_div : OpR X (inplaceOp .FloorDiv) (rD X.K oDiv) := op_onI iop_fdiv (fun _ _ h => by
  simp only [Bool.and_eq_true, decide_eq_true_eq] at h
  exact h) fun _ _ _ => .int
abbrev oPow : M → M → R M := onI (fun i j => decide (0 ≤ j) && decide (j ≤ 1000000) && decide (i.natAbs < 2 ^ 64)) fun i j => mI (i ^ j.toNat)
theorem o_pow : OpR X (binaryOp .Pow) (rD X.K oPow) := op_onI op_pow (fun _ _ h => by
  simp only [Bool.and_eq_true, decide_eq_true_eq] at h
  exact ⟨h.1.1, h.1.2, h.2⟩) fun _ _ _ => .int
def onU (g : Int → I) : M → R M
  | .im (.int i) => .ok (.im (g i))
  | _ => .no
abbrev oNeg : M → R M := onU fun i => .int (-i)
theorem o_neg : UnR X (unaryOp .USub) (rDU X.K oNeg) := un_of un_neg fun x H Q q => by
  obtain ⟨m, S, r, h1, h2, k⟩ := q
  unfold oNeg onU at h2
  split at h2
  · rename_i i
    cases h2
    exact ⟨i, h1.int, k _ H [] (Ex.refl H) (.im .int) .nil⟩
  · cases h2

/-! ### a < b and its like, texts and whole numbers -/
def onC (g : Int → Int → Bool) (gs : Str → Str → Bool) : M → M → R M
  | .im (.int i), .im (.int j) => .ok (mB (g i j))
  | .im (.str i), .im (.str j) => .ok (mB (gs i j))
  | _, _ => .no
theorem op_onC {f : Value → Value → Sem Value} {g : Int → Int → Bool} {gs : Str → Str → Bool} (h0 : OpR X f (rI0 fun i j => .bl (g i j))) (h1 : OpR X f (fun x y H Q => ∃ i j, x = .str i ∧ y = .str j ∧ Q (.bl (gs i j)) H)) : OpR X f (rD X.K (onC g gs)) :=
  op_of (h0.or h1) fun x y H Q q => by
    obtain ⟨m, n, S, T, r, h1, h2, h3, k⟩ := q
    unfold onC at h3
    split at h3
    · rename_i i j
      cases h3
      exact .inl ⟨i, j, h1.int, h2.int, k _ H [] (Ex.refl H) (.im .bl) .nil⟩
    · rename_i i j
      cases h3
      exact .inr ⟨i, j, h1.str, h2.str, k _ H [] (Ex.refl H) (.im .bl) .nil⟩
    · cases h3
def sLt (a b : Str) : Bool := decide (a.cps.toList < b.cps.toList)
abbrev oLt : M → M → R M := onC (fun i j => decide (i < j)) sLt
abbrev oLe : M → M → R M := onC (fun i j => decide (i ≤ j)) fun i j => !sLt j i
abbrev oGt : M → M → R M := onC (fun i j => decide (j < i)) fun i j => sLt j i
abbrev oGe : M → M → R M := onC (fun i j => decide (j ≤ i)) fun i j => !sLt i j
theorem o_lt : OpR X (compareOp .Lt) (rD X.K oLt) := op_onC op_lt op_lt_str
theorem o_le : OpR X (compareOp .LtE) (rD X.K oLe) := op_onC op_le op_le_str
theorem o_gt : OpR X (compareOp .Gt) (rD X.K oGt) := op_onC op_gt op_gt_str
theorem o_ge : OpR X (compareOp .GtE) (rD X.K oGe) := op_onC op_ge op_ge_str

/-! ### == and != of data without dicts -/
mutual
def dI : I → PyData
  | .non => .none
  | .bl b => .bool b
  | .int i => .int i
  | .str x => .str x
  | .tup l => .tuple (dIs l)
def dIs : List I → List PyData
  | [] => []
  | i :: l => dI i :: dIs l
end
mutual
def dM : M → Option PyData
  | .im i => some (dI i)
  | .lst l => (dMs l).map .list
  | .tpm l => (dMs l).map .tuple
  | .scr l => some (.list (l.map .int))
  | _ => none
def dMs : List M → Option (List PyData)
  | [] => some []
  | m :: l => match dM m, dMs l with
    | some a, some b => some (a :: b)
    | _, _ => none
end
mutual
theorem dI_plain : ∀ i : I, (dI i).plain = true
  | .non => by simp only [dI, PyData.plain]
  | .bl _ => by simp only [dI, PyData.plain]
  | .int _ => by simp only [dI, PyData.plain]
  | .str _ => by simp only [dI, PyData.plain]
  | .tup l => by
    simp only [dI, PyData.plain]
    exact dIs_plain l
theorem dIs_plain : ∀ i : List I, PyData.plainAll (dIs i) = true
  | [] => by simp only [dIs, PyData.plainAll]
  | i :: l => by
    simp only [dIs, PyData.plainAll, dI_plain i, dIs_plain l, Bool.and_self]
end
theorem ints_plain : ∀ l : List Int, PyData.plainAll (l.map .int) = true
  | [] => by simp only [List.map_nil, PyData.plainAll]
  | i :: l => by
    simp only [List.map_cons, PyData.plainAll, PyData.plain, ints_plain l, Bool.and_self]
mutual
theorem dM_plain : ∀ (m : M) (d : PyData), dM m = some d → d.plain = true
  | .im i, d, h => by
    simp only [dM] at h
    cases h
    exact dI_plain i
  | .lst l, d, h => by
    simp only [dM] at h
    cases q : dMs l with
    | none => rw [q] at h; cases h
    | some e =>
      rw [q] at h
      cases h
      simp only [PyData.plain]
      exact dMs_plain l e q
  | .tpm l, d, h => by
    simp only [dM] at h
    cases q : dMs l with
    | none => rw [q] at h; cases h
    | some e =>
      rw [q] at h
      cases h
      simp only [PyData.plain]
      exact dMs_plain l e q
  | .scr l, d, h => by
    simp only [dM] at h
    cases h
    simp only [PyData.plain]
    exact ints_plain l
  | .dic _, d, h => by simp [dM] at h
  | .obj _ _, d, h => by simp [dM] at h
theorem dMs_plain : ∀ (l : List M) (d : List PyData), dMs l = some d → PyData.plainAll d = true
  | [], d, h => by
    simp only [dMs] at h
    cases h
    simp only [PyData.plainAll]
  | m :: l, d, h => by
    simp only [dMs] at h
    split at h
    · rename_i a b ha hb
      cases h
      simp only [PyData.plainAll, dM_plain m a ha, dMs_plain l b hb, Bool.and_self]
    · cases h
end
section
variable {K : PySem.W.Frag} {H : Hp}
mutual
theorem IsI.dp : ∀ {v : V} {i : I}, IsI K H v i → Dp K H v (dI i)
  | _, _, .non => by rw [dI]; exact .non
  | _, _, .bl => by rw [dI]; exact .bl _
  | _, _, .int => by rw [dI]; exact .int _
  | _, _, .str => by rw [dI]; exact .str _
  | _, _, .tup h r => by rw [dI]; exact .tup h (IsIs.dp r)
theorem IsIs.dp : ∀ {v : List V} {i : List I}, IsIs K H v i → DpAll K H v (dIs i)
  | _, _, .nil => by rw [dIs]; exact .nil
  | _, _, .cons h r => by rw [dIs]; exact .cons (IsI.dp h) (IsIs.dp r)
end
theorem ints_dp : ∀ l : List Int, DpAll K H (l.map V.int) (l.map PyData.int)
  | [] => .nil
  | i :: l => .cons (.int i) (ints_dp l)
mutual
theorem IsM.dp : ∀ {v : V} {m : M} {S : List Addr}, IsM K H v m S → ∀ d, dM m = some d → Dp K H v d
  | _, _, _, .im h, d, e => by
    rw [dM] at e
    cases e
    exact h.dp
  | _, .lst l, _, .lst h r, d, e => by
    rw [dM] at e
    cases q : dMs l with
    | none => rw [q] at e; cases e
    | some k =>
      rw [q] at e
      cases e
      exact .lst (.of h) (IsMs.dp r k q)
  | _, .tpm l, _, .tpm h r, d, e => by
    rw [dM] at e
    cases q : dMs l with
    | none => rw [q] at e; cases e
    | some k =>
      rw [q] at e
      cases e
      exact .tup h (IsMs.dp r k q)
  | _, _, _, .scrF h, d, e => by
    rw [dM] at e
    cases e
    exact .lst (.inl (.inr ⟨_, h⟩)) (ints_dp _)
  | _, _, _, .scrK h, d, e => by
    rw [dM] at e
    cases e
    exact .lst (h H) (ints_dp _)
  | _, _, _, .scrL h, d, e => by
    rw [dM] at e
    cases e
    exact .lst (.of h) (ints_dp _)
  | _, _, _, .dic _ _ _ _, d, e => by simp [dM] at e
  | _, _, _, .obj _ _ _, d, e => by simp [dM] at e
theorem IsMs.dp : ∀ {v : List V} {m : List M} {S : List Addr}, IsMs K H v m S → ∀ d, dMs m = some d → DpAll K H v d
  | _, _, _, .nil, d, e => by
    rw [dMs] at e
    cases e
    exact .nil
  | _, m :: l, _, .cons h r, d, e => by
    rw [dMs] at e
    split at e
    · rename_i a b ha hb
      cases e
      exact .cons (IsM.dp h a ha) (IsMs.dp r b hb)
    · cases e
end
end
/-- == of data without dicts -/
def eqD (m n : M) : R Bool := match dM m, dM n with
  | some d, some e => if d.depth ≤ 60 then .ok (PyData.eqv d e) else .no
  | _, _ => .no
theorem eqD_is {m n : M} {b : Bool} (h : eqD m n = .ok b) : ∃ d e, dM m = some d ∧ dM n = some e ∧ d.depth ≤ 60 ∧ b = PyData.eqv d e := by
  unfold eqD at h
  split at h
  · rename_i d e h1 h2
    split at h
    · rename_i hd
      cases h
      exact ⟨d, e, h1, h2, hd, rfl⟩
    · cases h
  · cases h
theorem op_eqP (hu : X.A.units + 64 < cLine) {x y : V} {v u : Value} {d e : PyData} {pins : List (Addr × Obj)} {s : Shared} {σ : L2.St} {H : Hp} {Q : VK} (Iv : Inv X pins σ H s) (rx : RelV x v) (ry : RelV y u) (hd : Dp X.K H x d) (he : Dp X.K H y e) (pd : d.plain = true) (pe : e.plain = true) (dd : d.depth ≤ 60) (q : Q (.bl (PyData.eqv d e)) H) :
    wpAny (model X.prog X.w) X.A (compareOp .Eq v u) (EP X pins σ Q) X.xe s := by
  obtain ⟨as, r1⟩ := Dp.reads Iv d x v hd rx
  obtain ⟨bs, r2⟩ := Dp.reads Iv e y u he ry
  have := Nat.min_le_left d.depth e.depth
  exact SeqAt.eq_plain r1 r2 pd pe (by omega) ⟨.bl _, H, Iv, rfl, q⟩
theorem op_neP (hu : X.A.units + 64 < cLine) {x y : V} {v u : Value} {d e : PyData} {pins : List (Addr × Obj)} {s : Shared} {σ : L2.St} {H : Hp} {Q : VK} (Iv : Inv X pins σ H s) (rx : RelV x v) (ry : RelV y u) (hd : Dp X.K H x d) (he : Dp X.K H y e) (pd : d.plain = true) (pe : e.plain = true) (dd : d.depth ≤ 60) (q : Q (.bl (!PyData.eqv d e)) H) :
    wpAny (model X.prog X.w) X.A (compareOp .NotEq v u) (EP X pins σ Q) X.xe s := by
  obtain ⟨as, r1⟩ := Dp.reads Iv d x v hd rx
  obtain ⟨bs, r2⟩ := Dp.reads Iv e y u he ry
  have := Nat.min_le_left d.depth e.depth
  exact SeqAt.ne_plain r1 r2 pd pe (by omega) ⟨.bl _, H, Iv, rfl, q⟩
end
end DL
/-! DL11: ==, != with dicts; is None, +, in, items, slices. -/
namespace DL
open PySem PySem.Spec PyProof.Rows L2

/-! ### == of dicts -/
def hitsD (k : List (Key × M)) : List (Key × M) → R Bool
  | [] => .ok true
  | (g, m) :: r => match dGet k g with
    | none => .ok false
    | some n => eqD m n >>= fun e => hitsD k r >>= fun b => .ok (e && b)
theorem hits_dic {X : Cx} {pins : List (Addr × Obj)} {s : Shared} {σ : L2.St} {H : Hp} (Iv : Inv X pins σ H s) (hu : X.A.units + 64 < cLine) {k : List (Key × M)} {kvb : List (Key × V)} {Tb : List Addr} {vb : List (Key × Value)}
    (hk : kvb.map (·.1) = k.map (·.1)) (isb : IsMs X.K H (kvb.map (·.2)) (k.map (·.2)) Tb) (nd : Tb.Nodup) (rb : KV kvb vb) :
    ∀ {l : List (Key × M)} {kva : List (Key × V)} {Ta : List Addr} {va : List (Key × Value)} {b : Bool}, kva.map (·.1) = l.map (·.1) → IsMs X.K H (kva.map (·.2)) (l.map (·.2)) Ta → KV kva va → hitsD k l = .ok b → PySem.W.KeqHits X.A.in1 s vb va b
  | [], [], _, va, b, _, _, ra, h => by
    unfold KV at ra
    cases ra
    cases h
    exact .nil
  | [], _ :: _, _, _, _, h, _, _, _ => by simp at h
  | _ :: _, [], _, _, _, h, _, _, _ => by simp at h
  | (g, m) :: l, (g', v) :: kva, Ta, va, b, h, is, ra, e => by
    simp only [List.map_cons, List.cons.injEq] at h
    obtain ⟨rfl, h⟩ := h
    unfold KV at ra
    cases ra with
    | @cons _ q _ qs r1 ra =>
      obtain ⟨q1, q2⟩ := q
      obtain ⟨r0, r1⟩ := r1
      have r0 : g' = q1 := r0
      have r1 : RelV v q2 := r1
      subst r0
      have is : IsMs X.K H (v :: kva.map (·.2)) (m :: l.map (·.2)) Ta := is
      cases is with
      | cons is1 is2 =>
        obtain ⟨d1, d2⟩ := dGet_is (k := g') hk isb nd
        have e : (match dGet k g' with
          | none => R.ok false
          | some n => eqD m n >>= fun e => hitsD k l >>= fun b => .ok (e && b)) = .ok b := e
        cases q : dGet k g' with
        | none =>
          rw [q] at e
          cases e
          exact .miss (RelO.none_of (by have := rb.val g'; rw [d1 q] at this; exact this))
        | some n =>
          rw [q] at e
          obtain ⟨x, e1, e2⟩ := R.bind_ok e
          obtain ⟨y, e3, e4⟩ := R.bind_ok e2
          cases e4
          obtain ⟨w, Tw, g1, g2, _, _⟩ := d2 n q
          obtain ⟨u, hu1, hu2⟩ := RelO.some_of (by have := rb.val g'; rw [g1] at this; exact this)
          obtain ⟨dd, ee, f1, f2, f3, rfl⟩ := eqD_is e1
          obtain ⟨as, z1⟩ := Dp.reads Iv dd v q2 (is1.dp _ f1) r1
          obtain ⟨bs, z2⟩ := Dp.reads Iv ee w u (g2.dp _ f2) hu2
          have := Nat.min_le_left dd.depth ee.depth
          exact .hit hu1 (SeqAt.eqAt_plain dd ee X.A.in1 s q2 u as bs z1 z2 (dM_plain _ _ f1) (dM_plain _ _ f2) (by show X.A.units + 1 + min dd.depth ee.depth < cLine; omega)) (hits_dic Iv hu hk isb nd rb h is2 ra e3)
def eqR : M → M → R Bool
  | .dic l, .dic k => if l.length = k.length then hitsD k l else .ok false
  | m, n => eqD m n
abbrev oEq : M → M → R M := fun m n => eqR m n >>= fun b => .ok (mB b)
abbrev oNe : M → M → R M := fun m n => eqR m n >>= fun b => .ok (mB (!b))
theorem eqR_or {m n : M} {b : Bool} (h : eqR m n = .ok b) : (∃ l k, m = .dic l ∧ n = .dic k ∧ (if l.length = k.length then hitsD k l else .ok false) = .ok b) ∨ eqD m n = .ok b := by
  cases m <;> cases n <;> first | exact .inr h | exact .inl ⟨_, _, rfl, rfl, h⟩
theorem IsM.sub_nd {K : PySem.W.Frag} {H : Hp} {v : V} {m : M} {S : List Addr} (_ : IsM K H v m S) : True := trivial
section
variable {X : Cx}
/-- a comparison whose two sides bear no place twice -/
def rDn (K : PySem.W.Frag) (g : M → M → R M) : R2 := fun x y H Q => ∃ m n S T r, IsM K H x m S ∧ S.Nodup ∧ IsM K H y n T ∧ T.Nodup ∧ g m n = .ok r ∧ ∀ v H2 U, Ex H H2 → IsM K H2 v r U → New H U → Q v H2
theorem dicEq_run {op : CmpOp} {f : Bool → Bool} (hu : X.A.units + 64 < cLine)
    (rule : ∀ {a b : Addr} {ka kb : List (Key × Value)} {r : Bool} {s : Shared} {Q E : Value → Shared → Prop}, (a == sysModules) = false → (b == sysModules) = false → s.heap.DictOf (mixKind X.prog X.w) a ka → s.heap.DictOf (mixKind X.prog X.w) b kb → X.A.units < cLine →
      (ka.length = kb.length → PySem.W.KeqHits X.A.in1 s kb ka r) → Q (.bool (f (ka.length == kb.length && r))) s → wpAny (model X.prog X.w) X.A (compareOp op (.ref a) (.ref b)) Q E s)
    {l k : List (Key × M)} {x y : V} {v u : Value} {S T : List Addr} {b : Bool} {pins : List (Addr × Obj)} {s : Shared} {σ : L2.St} {H : Hp} {Q : VK} (Iv : Inv X pins σ H s) (rx : RelV x v) (ry : RelV y u) (h1 : IsM X.K H x (.dic l) S) (h2 : IsM X.K H y (.dic k) T) (nT : T.Nodup)
    (h : (if l.length = k.length then hitsD k l else .ok false) = .ok b) (q : Q (.bl (f b)) H) : wpAny (model X.prog X.w) X.A (compareOp op v u) (EP X pins σ Q) X.xe s := by
  obtain ⟨a, ka, Ta, rfl, ha, ha1, ha2, ha3, rfl⟩ := h1.dic'
  obtain ⟨c, kb, Tb, rfl, hb, hb1, hb2, hb3, rfl⟩ := h2.dic'
  cases (show v = Value.ref a from rx)
  cases (show u = Value.ref c from ry)
  obtain ⟨_, ya, va, ra, da⟩ := dk_rd Iv.hok ha
  obtain ⟨_, yb, vb, rb, db⟩ := dk_rd Iv.hok hb
  have la : va.length = l.length := by
    have e := congrArg List.length ha1
    simp only [List.length_map] at e
    rw [← ra.length]; exact e
  have lb : vb.length = k.length := by
    have e := congrArg List.length hb1
    simp only [List.length_map] at e
    rw [← rb.length]; exact e
  by_cases hl : l.length = k.length
  · rw [if_pos hl] at h
    refine rule (r := b) ya yb da db (by omega) (fun _ => hits_dic Iv hu hb1 hb3 (List.nodup_cons.mp nT).2 rb ha1 ha3 ra h) ?_
    rw [show (va.length == vb.length && b) = b by rw [la, lb, hl]; simp]
    exact ⟨.bl (f b), H, Iv, rfl, q⟩
  · rw [if_neg hl] at h
    cases h
    refine rule (r := false) ya yb da db (by omega) (fun e => absurd (by rw [← la, ← lb]; exact e) hl) ?_
    rw [show (va.length == vb.length && false) = false by simp]
    exact ⟨.bl (f false), H, Iv, rfl, q⟩
theorem o_eqn (hu : X.A.units + 64 < cLine) : OpR X (compareOp .Eq) (rDn X.K oEq) := fun pins s σ H x y v u Q Iv rx ry h => by
  obtain ⟨m, n, S, T, r, h1, _, h2, nT, h3, k⟩ := h
  obtain ⟨b, h4, h5⟩ := R.bind_ok h3
  cases h5
  have k' := k (.bl b) H [] (Ex.refl H) (.im .bl) .nil
  rcases eqR_or h4 with ⟨l, kk, rfl, rfl, h6⟩ | h6
  · exact dicEq_run (f := id) hu (fun ya yb da db hu hits q => PySem.W.keq_eq ya yb da db hu hits q) Iv rx ry h1 h2 nT h6 k'
  · obtain ⟨d, e, f1, f2, f3, rfl⟩ := eqD_is h6
    exact op_eqP hu Iv rx ry (h1.dp _ f1) (h2.dp _ f2) (dM_plain _ _ f1) (dM_plain _ _ f2) f3 k'
theorem o_nen (hu : X.A.units + 64 < cLine) : OpR X (compareOp .NotEq) (rDn X.K oNe) := fun pins s σ H x y v u Q Iv rx ry h => by
  obtain ⟨m, n, S, T, r, h1, _, h2, nT, h3, k⟩ := h
  obtain ⟨b, h4, h5⟩ := R.bind_ok h3
  cases h5
  have k' := k (.bl !b) H [] (Ex.refl H) (.im .bl) .nil
  rcases eqR_or h4 with ⟨l, kk, rfl, rfl, h6⟩ | h6
  · exact dicEq_run (f := not) hu (fun ya yb da db hu hits q => PySem.W.keq_ne ya yb da db hu hits q) Iv rx ry h1 h2 nT h6 k'
  · obtain ⟨d, e, f1, f2, f3, rfl⟩ := eqD_is h6
    exact op_neP hu Iv rx ry (h1.dp _ f1) (h2.dp _ f2) (dM_plain _ _ f1) (dM_plain _ _ f2) f3 k'
end
end DL
/-! DL12: comparisons of data as expressions; is None, +, in, items, slices. -/
namespace DL
open PySem PySem.Spec PyProof.Rows L2

section
variable {X : Cx} {a b : Expr} {Ua Ub : List Nat} {fa fb : Env → R M} {pos : Pos}
theorem imp_opn {g : M → M → R M} {σ : L2.St} {H : Hp} {Q : VK} (h : tD X.K [] (fun ρ => fa ρ >>= fun x => fb ρ >>= fun y => g x y) σ H Q) : tOp (rDn X.K g) (tD X.K Ua fa) (tD X.K Ub fb) σ H Q := by
  obtain ⟨ρ, S, m, sl, hm, k⟩ := h
  obtain ⟨x, h1, h2⟩ := R.bind_ok hm
  obtain ⟨y, h4, h3⟩ := R.bind_ok h2
  exact ⟨ρ, S, x, sl, h1, fun v H1 T e1 is1 f1 => ⟨ρ, S, y, sl.ex e1, h4, fun w H2 T2 e2 is2 f2 => ⟨x, y, T, T2, m, is1.ex e2, f1.nd, is2, f2.nd, h3, fun v3 H3 U e3 is3 nw =>
    k v3 H3 U ((e1.trans e2).trans e3) is3 (nw.back (e1.trans e2)).fr⟩⟩⟩
theorem pd_cmpn {op : CmpOp} {g : M → M → R M} (ho : OpR X (compareOp op) (rDn X.K g)) (ha : PE X a (tD X.K Ua fa)) (hb : PE X b (tD X.K Ub fb)) (hm : behindInMarks op b = false := by first | exact nomark _ | rfl) :
    PE X (.Compare a [op] [b] pos) (tD X.K [] fun ρ => fa ρ >>= fun x => fb ρ >>= fun y => g x y) := (pe_cmpR ho ha hb hm).imp fun _ _ _ h => imp_opn h
theorem ptd_cmpn {op : CmpOp} {g : M → M → R M} (ho : OpR X (compareOp op) (rDn X.K g)) (ha : PE X a (tD X.K Ua fa)) (hb : PE X b (tD X.K Ub fb)) (hm : behindInMarks op b = false := by first | exact nomark _ | rfl) :
    PT X (.Compare a [op] [b] pos) (tDT X.K fun ρ => fa ρ >>= fun x => fb ρ >>= fun y => g x y >>= asB) := (pt_cmpR ho ha hb hm).imp fun σ H Q h => by
  obtain ⟨ρ, S, m, sl, hm, k⟩ := h
  obtain ⟨x, h1, h2⟩ := R.bind_ok hm
  obtain ⟨y, h3, h5⟩ := R.bind_ok h2
  obtain ⟨z, h6, h4⟩ := R.bind_ok h5
  refine imp_opn (X := X) ⟨ρ, S, z, sl, by simp only [h1, h3, h6, R.ok_bind], fun v H2 T e is fr => ?_⟩
  cases z with
  | im i =>
    cases i with
    | bl b =>
      cases h4
      cases is.bl
      exact ⟨m, rfl, k H2 e⟩
    | _ => cases h4
  | _ => cases h4
/-- a test of a value's bool -/
theorem ptd_of (h : PE X a (tD X.K Ua fa)) (k : ∀ {t : TE}, PE X a t → PT X a (fun σ H Q => t σ H fun x H' => ∃ d, x = .bl d ∧ Q d H')) : PT X a (tDT X.K fun ρ => fa ρ >>= asB) := (k h).imp fun _ _ _ q => imp_tB q

/-- .. of data without dicts, by values -/
abbrev oEqD : M → M → R M := fun m n => eqD m n >>= fun b => .ok (mB b)
abbrev oNeD : M → M → R M := fun m n => eqD m n >>= fun b => .ok (mB (!b))
theorem o_eqd (hu : X.A.units + 64 < cLine) : OpR X (compareOp .Eq) (rD X.K oEqD) := fun pins s σ H x y v u Q Iv rx ry h => by
  obtain ⟨m, n, S, T, r, h1, h2, h3, k⟩ := h
  obtain ⟨b, h4, h5⟩ := R.bind_ok h3
  cases h5
  obtain ⟨d, e, f1, f2, f3, rfl⟩ := eqD_is h4
  exact op_eqP hu Iv rx ry (h1.dp _ f1) (h2.dp _ f2) (dM_plain _ _ f1) (dM_plain _ _ f2) f3 (k _ H [] (Ex.refl H) (.im .bl) .nil)
theorem o_ned (hu : X.A.units + 64 < cLine) : OpR X (compareOp .NotEq) (rD X.K oNeD) := fun pins s σ H x y v u Q Iv rx ry h => by
  obtain ⟨m, n, S, T, r, h1, h2, h3, k⟩ := h
  obtain ⟨b, h4, h5⟩ := R.bind_ok h3
  cases h5
  obtain ⟨d, e, f1, f2, f3, rfl⟩ := eqD_is h4
  exact op_neP hu Iv rx ry (h1.dp _ f1) (h2.dp _ f2) (dM_plain _ _ f1) (dM_plain _ _ f2) f3 (k _ H [] (Ex.refl H) (.im .bl) .nil)

/-! ### is None -/
def isN : M → Bool
  | .im .non => true
  | _ => false
theorem isN_is {K : PySem.W.Frag} {H : Hp} {v : V} {m : M} {S : List Addr} (h : IsM K H v m S) : decide (v = .non) = isN m := by
  cases h with
  | im h => cases h <;> simp [isN]
  | _ => simp [isN]
def oIsN : M → M → R M
  | m, .im .non => .ok (mB (isN m))
  | _, _ => .no
def oNotN : M → M → R M
  | m, .im .non => .ok (mB (!isN m))
  | _, _ => .no
theorem o_isN : OpR X (compareOp .Is) (rD X.K oIsN) := op_of op_isN fun x y H Q q => by
  obtain ⟨m, n, S, T, r, h1, h2, h3, k⟩ := q
  unfold oIsN at h3
  split at h3
  · cases h3
    exact ⟨h2.non, isN_is h1 ▸ k _ H [] (Ex.refl H) (.im .bl) .nil⟩
  · cases h3
theorem o_notN : OpR X (compareOp .IsNot) (rD X.K oNotN) := op_of op_notN fun x y H Q q => by
  obtain ⟨m, n, S, T, r, h1, h2, h3, k⟩ := q
  unfold oNotN at h3
  split at h3
  · cases h3
    exact ⟨h2.non, isN_is h1 ▸ k _ H [] (Ex.refl H) (.im .bl) .nil⟩
  · cases h3

/-! ### + -/
def oAdd : M → M → R M
  | .im (.int i), .im (.int j) => .ok (mI (i + j))
  | .im (.str i), .im (.str j) => if i.length + j.length ≤ sizeLine then .ok (mS (i ++ j)) else .no
  | .im (.tup k), .im (.tup l) => if k.length + l.length ≤ sizeLine then .ok (mT (k ++ l)) else .no
  | .lst k, .lst l => match allIm k, allIm l with
    | some a, some b => if a.length + b.length ≤ sizeLine then .ok (.lst ((a ++ b).map .im)) else .no
    | _, _ => .no
  | _, _ => .no
theorem new1 {H : Hp} {p : Addr} (hp : H p = none) : New H [p] := ⟨fun a ha => (List.mem_singleton.mp ha) ▸ hp, by simp⟩
theorem laid_lst {K : PySem.W.Frag} {H : Hp} {p : Addr} {vs : List V} {l : List I} (h : IsIs K H vs l) (hp : H p = none) : IsM K (L2.upd H p (.lst vs)) (.ref p) (.lst (l.map .im)) [p] :=
  .lst upd_same (IsMs.ims (h.keep (Ex.tk (Ex.new hp))))
theorem o_add : OpR X (binaryOp .Add) (rD X.K oAdd) := op_of (op_add.or (op_add_str.or (op_cat.or op_catA))) fun x y H Q q => by
  obtain ⟨m, n, S, T, r, h1, h2, h3, k⟩ := q
  unfold oAdd at h3
  split at h3
  · rename_i i j
    cases h3
    exact .inl ⟨i, j, h1.int, h2.int, k _ H [] (Ex.refl H) (.im .int) .nil⟩
  · rename_i i j
    split at h3
    · rename_i hl
      cases h3
      exact .inr (.inl ⟨i, j, h1.str, h2.str, hl, k _ H [] (Ex.refl H) (.im .str) .nil⟩)
    · cases h3
  · rename_i i j
    split at h3
    · rename_i hl
      cases h3
      obtain ⟨a, vs, rfl, s1, i1⟩ := h1.tup
      obtain ⟨b, ws, rfl, s2, i2⟩ := h2.tup
      refine .inr (.inr (.inr ⟨a, b, vs, ws, rfl, rfl, s1, s2, by rw [i1.length, i2.length]; exact hl, fun e => ?_, fun _ e => ?_, fun _ _ p hp => ?_⟩))
      · subst e
        cases i1
        exact k _ H [] (Ex.refl H) h2.im_nil.2.im' .nil
      · subst e
        cases i2
        rw [List.append_nil] at k
        exact k _ H [] (Ex.refl H) h1.im_nil.2.im' .nil
      · exact k _ _ [] (Ex.new hp) (laid_im (i1.append i2) hp) .nil
    · cases h3
  · rename_i i j
    split at h3
    · rename_i ia ib ha hb
      split at h3
      · rename_i hl
        cases h3
        obtain ⟨a, vs, T1, rfl, s1, i1, _⟩ := h1.lst'
        obtain ⟨b, ws, T2, rfl, s2, i2, _⟩ := h2.lst'
        obtain rfl := allIm_map ha
        obtain rfl := allIm_map hb
        obtain ⟨_, i1⟩ := i1.of_ims
        obtain ⟨_, i2⟩ := i2.of_ims
        exact .inr (.inr (.inl ⟨a, b, vs, ws, rfl, rfl, s1, s2, by rw [i1.length, i2.length]; exact hl, fun p hp => k _ _ [p] (Ex.new hp) (laid_lst (i1.append i2) hp) (new1 hp)⟩))
      · cases h3
    · cases h3
  · cases h3

/-! ### in a sequence of flat items -/
def flI : I → Bool
  | .tup _ => false
  | _ => true
theorem flI_is {K : PySem.W.Frag} {H : Hp} {v : V} {i : I} (h : IsI K H v i) (f : flI i = true) : flatV v = true := by
  cases h <;> first | rfl | cases f
theorem eqV_is {K : PySem.W.Frag} {H : Hp} {v w : V} {i j : I} (h : IsI K H v i) (h' : IsI K H w j) (f : flI i = true) (f' : flI j = true) : eqV v w = PyData.eqv (dI i) (dI j) := by
  cases h <;> cases h' <;> first | (simp [eqV, dI, PyData.eqv]; done) | cases f | cases f'
theorem flIs_is {K : PySem.W.Frag} {H : Hp} {x : V} {i : I} (hx : IsI K H x i) (fx : flI i = true) : ∀ {vs : List V} {l : List I}, IsIs K H vs l → l.all flI = true → vs.all flatV = true ∧ (vs.any fun y => eqV y x) = l.any fun y => PyData.eqv (dI y) (dI i)
  | _, _, .nil, _ => ⟨rfl, rfl⟩
  | _, _, .cons h r, f => by
    rw [List.all_cons, Bool.and_eq_true] at f
    obtain ⟨a, b⟩ := flIs_is hx fx r f.2
    exact ⟨by rw [List.all_cons, flI_is h f.1, a]; rfl, by rw [List.any_cons, List.any_cons, eqV_is h hx f.1 fx, b]⟩
def inM (x : I) (l : List I) : R Bool := if flI x && l.all flI then .ok (l.any fun y => PyData.eqv (dI y) (dI x)) else .no
def inR : M → M → R Bool
  | .im x, .im (.tup l) => inM x l
  | .im x, .lst l => match allIm l with
    | some l => inM x l
    | none => .no
  | .im (.str x), .im (.str y) => .ok (!(Builtin.Str.occurrences y x 0 y.length 1).isEmpty)
  | _, _ => .no
abbrev oIn : M → M → R M := fun m n => inR m n >>= fun b => .ok (mB b)
abbrev oNotIn : M → M → R M := fun m n => inR m n >>= fun b => .ok (mB (!b))
theorem inM_is {K : PySem.W.Frag} {H : Hp} {x : V} {i : I} (hx : IsI K H x i) {vs : List V} {l : List I} (r : IsIs K H vs l) {b : Bool} (h : inM i l = .ok b) : flatV x = true ∧ vs.all flatV = true ∧ inV x vs = b := by
  unfold inM at h
  split at h
  · rename_i f
    rw [Bool.and_eq_true] at f
    cases h
    obtain ⟨a, b⟩ := flIs_is hx f.1 r f.2
    exact ⟨flI_is hx f.1, a, b⟩
  · cases h
theorem inR_is {K : PySem.W.Frag} {H : Hp} {x y : V} {m n : M} {S T : List Addr} {b : Bool} (h1 : IsM K H x m S) (h2 : IsM K H y n T) (h : inR m n = .ok b) :
    (∃ p xs, y = .ref p ∧ (SqL K H p xs ∨ SqT K H p xs) ∧ flatV x = true ∧ xs.all flatV = true ∧ inV x xs = b) ∨ ∃ i j, x = .str i ∧ y = .str j ∧ (!(Builtin.Str.occurrences j i 0 j.length 1).isEmpty) = b := by
  unfold inR at h
  split at h
  · rename_i i l
    obtain ⟨a, vs, rfl, s1, i1⟩ := h2.tup
    obtain ⟨g1, g2, g3⟩ := inM_is h1.im_nil.2 i1 h
    exact .inl ⟨a, vs, rfl, .inr s1, g1, g2, g3⟩
  · rename_i i l
    split at h
    · rename_i l' hl
      obtain ⟨a, vs, T1, rfl, s1, i1, _⟩ := h2.lst'
      obtain rfl := allIm_map hl
      obtain ⟨_, i1⟩ := i1.of_ims
      obtain ⟨g1, g2, g3⟩ := inM_is h1.im_nil.2 i1 h
      exact .inl ⟨a, vs, rfl, .inl (.of s1), g1, g2, g3⟩
    · cases h
  · rename_i i j
    cases h
    exact .inr ⟨i, j, h1.str, h2.str, rfl⟩
  · cases h
theorem o_in : OpR X (compareOp .In) (rD X.K oIn) := op_of (op_in_seq.or op_in_str) fun x y H Q q => by
  obtain ⟨m, n, S, T, r, h1, h2, h3, k⟩ := q
  obtain ⟨b, h4, h5⟩ := R.bind_ok h3
  cases h5
  have k' := k (.bl b) H [] (Ex.refl H) (.im .bl) .nil
  rcases inR_is h1 h2 h4 with ⟨p, xs, rfl, g1, g2, g3, rfl⟩ | ⟨i, j, rfl, rfl, rfl⟩
  · exact .inl ⟨p, xs, rfl, g1, g2, g3, k'⟩
  · exact .inr ⟨i, j, rfl, rfl, k'⟩
theorem o_notIn : OpR X (compareOp .NotIn) (rD X.K oNotIn) := op_of (op_notIn_seq.or op_notIn_str) fun x y H Q q => by
  obtain ⟨m, n, S, T, r, h1, h2, h3, k⟩ := q
  obtain ⟨b, h4, h5⟩ := R.bind_ok h3
  cases h5
  have k' := k (.bl !b) H [] (Ex.refl H) (.im .bl) .nil
  rcases inR_is h1 h2 h4 with ⟨p, xs, rfl, g1, g2, g3, rfl⟩ | ⟨i, j, rfl, rfl, rfl⟩
  · exact .inl ⟨p, xs, rfl, g1, g2, g3, k'⟩
  · exact .inr ⟨i, j, rfl, rfl, k'⟩
end
end DL
/-! DL13: items, slices, dicts read. -/
namespace DL
open PySem PySem.Spec PyProof.Rows L2

section
variable {X : Cx} {a b c : Expr} {Ua Ub Uc : List Nat} {fa fb fc : Env → R M} {pos p2 apos cpos : Pos}

/-! ### x[i] -/
def ixM : M → M → R M
  | .im (.tup l), .im (.int i) => match atI l i with
    | some x => .ok (.im x)
    | none => .no
  | .lst l, .im (.int i) => match atI l i with
    | some x => .ok x
    | none => .no
  | .tpm l, .im (.int i) => match atI l i with
    | some x => .ok x
    | none => .no
  | .scr l, .im (.int i) => match atI l i with
    | some x => .ok (mI x)
    | none => .no
  | .im (.str z), .im (.int i) => if z.length ≤ sizeLine then (match atI z.cps.toList i with
    | some c => .ok (mS ⟨#[c]⟩)
    | none => .no) else .no
  | _, _ => .no
theorem atI_map {α β : Type} (f : α → β) (l : List α) (i : Int) : atI (l.map f) i = (atI l i).map f := by
  unfold atI
  rw [List.length_map]
  cases ixN l.length i with
  | none => rfl
  | some j => simp
theorem IsM.scrL' {K : PySem.W.Frag} {H : Hp} {v : V} {l : List Int} {S : List Addr} (h : IsM K H v (.scr l) S) : ∃ a, v = .ref a ∧ SqL K H a (l.map V.int) := by
  cases h with
  | scrF h => exact ⟨_, rfl, .inl (.inr ⟨_, h⟩)⟩
  | scrK h => exact ⟨_, rfl, h H⟩
  | scrL h => exact ⟨_, rfl, .of h⟩
theorem ixM_is {K : PySem.W.Frag} {H : Hp} {x y : V} {m n r : M} {S T : List Addr} (h1 : IsM K H x m S) (h2 : IsM K H y n T) (h : ixM m n = .ok r) {Q : VK} (k : ∀ v Tv, IsM K H v r Tv → Tv.Sublist S → Q v H) : rIx K x y H Q := by
  unfold ixM at h
  split at h
  · rename_i l i
    obtain ⟨a, vs, rfl, s1, i1⟩ := h1.tup
    split at h
    · rename_i z hz
      cases h
      obtain ⟨v, Tv, e1, e2, e3⟩ := (IsMs.ims i1).atI' (k := i) (m := .im z) (by rw [atI_map, hz]; rfl)
      exact .inr (.inl ⟨a, vs, i, v, rfl, h2.int, s1, e1, k v Tv e2 (e3.trans (List.nil_sublist _))⟩)
    · cases h
  · rename_i l i
    obtain ⟨a, vs, T1, rfl, s1, i1, rfl⟩ := h1.lst'
    split at h
    · rename_i z hz
      cases h
      obtain ⟨v, Tv, e1, e2, e3⟩ := i1.atI' hz
      exact .inl ⟨a, vs, i, v, rfl, h2.int, .of s1, e1, k v Tv e2 (e3.trans (List.sublist_cons_self _ _))⟩
    · cases h
  · rename_i l i
    cases h1 with
    | tpm s1 i1 =>
      split at h
      · rename_i z hz
        cases h
        obtain ⟨v, Tv, e1, e2, e3⟩ := i1.atI' hz
        exact .inr (.inl ⟨_, _, i, v, rfl, h2.int, s1, e1, k v Tv e2 e3⟩)
      · cases h
  · rename_i l i
    obtain ⟨a, rfl, s1⟩ := h1.scrL'
    split at h
    · rename_i z hz
      cases h
      exact .inl ⟨a, _, i, .int z, rfl, h2.int, s1, by rw [atI_map, hz]; rfl, k _ [] (.im .int) (List.nil_sublist _)⟩
    · cases h
  · rename_i z i
    split at h
    · rename_i hz
      split at h
      · rename_i c hc
        cases h
        exact .inr (.inr ⟨z, i, c, h1.str, h2.int, hz, hc, k _ [] (.im .str) (List.nil_sublist _)⟩)
      · cases h
    · cases h
  · cases h
/-- x[i], whatever the item is -/
theorem pd_ixm (ha : PE X a (tD X.K Ua fa)) (hb : PE X b (tD X.K Ub fb)) (hs : PlainIx b := by intro _ _; rfl) : PE X (.Subscript a b pos) (tD X.K Ua fun ρ => fa ρ >>= fun x => fb ρ >>= fun y => ixM x y) :=
  (pe_ix ix_seq ha hb hs).imp fun σ H Q h => by
    obtain ⟨ρ, S, m, sl, hm, k⟩ := h
    obtain ⟨x, h1, h2⟩ := R.bind_ok hm
    obtain ⟨y, h4, h3⟩ := R.bind_ok h2
    exact ⟨ρ, S, x, sl, h1, fun v H1 T e1 is1 f1 => ⟨ρ, S, y, sl.ex e1, h4, fun w H2 T2 e2 is2 f2 => ixM_is (is1.ex e2) is2 h3 fun v3 Tv is3 sub =>
      k v3 H2 Tv (e1.trans e2) is3 ⟨f1.nd.sublist sub, fun q hq => f1.fr q (sub.subset hq)⟩⟩⟩
/-- .. an item that never changes, by values -/
def ixI : M → M → R M := fun m n => ixM m n >>= asIm
theorem o_ixI : IxR X (rD X.K ixI) := ix_of ix_seq fun x y H Q q => by
  obtain ⟨m, n, S, T, r, h1, h2, h3, k⟩ := q
  obtain ⟨z, h4, h5⟩ := R.bind_ok h3
  cases z with
  | im z =>
    cases h5
    exact ixM_is h1 h2 h4 fun v Tv is _ => by
      obtain ⟨rfl, _⟩ := is.im_nil
      exact k v H [] (Ex.refl H) is .nil
  | _ => cases h5

/-! ### x[lo:hi] -/
def tDO' (K : PySem.W.Frag) (f : Env → R (Option Int)) : TO := fun σ H Q => ∃ ρ S o, Slots K H σ ρ S ∧ f ρ = .ok o ∧ ∀ H2, Ex H H2 → Q o H2
theorem pod_none : PO X none (tDO' X.K fun _ => .ok none) := ⟨fun pins s σ H Q I h => by
  obtain ⟨ρ, S, m, sl, hm, k⟩ := h
  cases hm
  exact po_none.run pins s σ H Q I (k H (Ex.refl H))⟩
def intR : M → R Int
  | .im (.int i) => .ok i
  | _ => .no
theorem intR_is {m : M} {i : Int} (h : intR m = .ok i) : m = mI i := by
  unfold intR at h
  split at h
  · cases h; rfl
  · cases h
theorem pod_some (ha : PE X a (tD X.K Ua fa)) : PO X (some a) (tDO' X.K fun ρ => fa ρ >>= fun m => intR m >>= fun i => .ok (some i)) := ⟨fun pins s σ H Q I h => by
  obtain ⟨ρ, S, m, sl, hm, k⟩ := h
  obtain ⟨x, h1, h2⟩ := R.bind_ok hm
  obtain ⟨y, h4, h3⟩ := R.bind_ok h2
  cases h3
  exact (po_some ha).run pins s σ H Q I ⟨ρ, S, x, sl, h1, fun v H1 T e1 is1 _ => ⟨y, (intR_is h4 ▸ is1).int, k H1 e1⟩⟩⟩
def cutA {α : Type} (xs : List α) (lo hi : Option Int) : List α := (xs.drop (HT.sIx xs.length 0 lo)).take (HT.sIx xs.length xs.length hi - HT.sIx xs.length 0 lo)
theorem cutA_map {α β : Type} (f : α → β) (l : List α) (lo hi : Option Int) : (cutA l lo hi).map f = cutA (l.map f) lo hi := by
  unfold cutA
  rw [List.map_take, List.map_drop, List.length_map]
theorem cutA_V (vs : List V) (lo hi : Option Int) : cutV vs lo hi = cutA vs lo hi := rfl
theorem cutA_whole {α : Type} (l : List α) (lo hi : Option Int) (h : HT.sIx l.length 0 lo = 0 ∧ HT.sIx l.length l.length hi = l.length) : cutA l lo hi = l := by
  unfold cutA
  rw [h.1, h.2]
  simp
theorem IsIs.cut {K : PySem.W.Frag} {H : Hp} {vs : List V} {l : List I} (h : IsIs K H vs l) (lo hi : Option Int) : IsIs K H (cutV vs lo hi) (cutA l lo hi) := by
  unfold cutV cutA
  rw [h.length]
  exact (h.drop _).take _
def cutM : M → Option Int → Option Int → R M
  | .im (.str z), lo, hi => if z.length ≤ sizeLine then .ok (mS (cutS z lo hi)) else .no
  | .im (.tup l), lo, hi => .ok (mT (cutA l lo hi))
  | .lst l, lo, hi => match allIm l with
    | some k => .ok (.lst ((cutA k lo hi).map .im))
    | none => .no
  | .scr l, lo, hi => .ok (.lst ((cutA l lo hi).map mI))
  | _, _, _ => .no
theorem ints_is {K : PySem.W.Frag} {H : Hp} : ∀ l : List Int, IsIs K H (l.map V.int) (l.map I.int)
  | [] => .nil
  | i :: l => .cons .int (ints_is l)
theorem pd_cut {lo hi : Option Expr} {fl fh : Env → R (Option Int)} (ha : PE X a (tD X.K Ua fa)) (hl : PO X lo (tDO' X.K fl)) (hh : PO X hi (tDO' X.K fh)) : PE X (.Subscript a (.Slice lo hi none p2) pos) (tD X.K [] fun ρ => fa ρ >>= fun x => fl ρ >>= fun l => fh ρ >>= fun u => cutM x l u) :=
  (pe_slice (sl_list.or (sl_tupA.or sl_str)) ha hl hh).imp fun σ H Q h => by
    obtain ⟨ρ, S, m, sl, hm, k⟩ := h
    obtain ⟨x, h1, h2⟩ := R.bind_ok hm
    obtain ⟨l, h4, h3⟩ := R.bind_ok h2
    obtain ⟨u, h5, h6⟩ := R.bind_ok h3
    refine ⟨ρ, S, x, sl, h1, fun v H1 T e1 is1 f1 => ⟨ρ, S, l, sl.ex e1, h4, fun H2 e2 => ⟨ρ, S, u, sl.ex (e1.trans e2), h5, fun H3 e3 => ?_⟩⟩⟩
    have is := is1.ex (e2.trans e3)
    have e123 := e1.trans (e2.trans e3)
    unfold cutM at h6
    split at h6
    · rename_i z
      split at h6
      · rename_i hz
        cases h6
        exact .inr (.inr ⟨z, is.str, hz, k _ H3 [] e123 (.im .str) Fr.nil⟩)
      · cases h6
    · rename_i z
      cases h6
      obtain ⟨p, vs, rfl, s1, i1⟩ := is.tup
      refine .inr (.inl ⟨p, vs, rfl, s1, fun hw => ?_, fun _ q hq => ?_⟩)
      · rw [i1.length] at hw
        rw [cutA_whole _ _ _ hw] at k
        exact k _ H3 [] e123 (is.im_nil.2.im') Fr.nil
      · exact k _ _ [] (e123.trans (Ex.new hq)) (laid_im (i1.cut l u) hq) Fr.nil
    · rename_i z
      split at h6
      · rename_i z' hz
        cases h6
        obtain ⟨p, vs, T1, rfl, s1, i1, _⟩ := is.lst'
        obtain rfl := allIm_map hz
        obtain ⟨_, i1⟩ := i1.of_ims
        exact .inl ⟨p, vs, rfl, .of s1, fun q hq => k _ _ [q] (e123.trans (Ex.new hq)) (laid_lst (i1.cut l u) hq) ((new1 hq).back e123).fr⟩
      · cases h6
    · rename_i z
      cases h6
      obtain ⟨p, rfl, s1⟩ := is.scrL'
      refine .inl ⟨p, _, rfl, s1, fun q hq => k _ _ [q] (e123.trans (Ex.new hq)) ?_ ((new1 hq).back e123).fr⟩
      have := laid_lst ((ints_is (K := X.K) (H := H3) z).cut l u) hq
      rwa [← cutA_map, List.map_map] at this
    · cases h6

/-! ### dicts: d[k], k in d, d.get(k), d.get(k, x) -/
def dItem : M → M → R M
  | .dic l, k => match keyOf k with
    | some k => match dGet l k with
      | some m => .ok m
      | none => .no
    | none => .no
  | _, _ => .no
theorem pd_dget (hu : X.A.units + 1 < cLine) (ha : PE X a (tD X.K Ua fa)) (hb : PE X b (tD X.K Ub fb)) (hs : NoSl b := by intro _ _; rfl) : PE X (.Subscript a b pos) (tD X.K Ua fun ρ => fa ρ >>= fun x => fb ρ >>= fun y => dItem x y) :=
  (pe_dget hu ha hb hs).imp fun σ H Q h => by
    obtain ⟨ρ, S, m, sl, hm, k⟩ := h
    obtain ⟨x, h1, h2⟩ := R.bind_ok hm
    obtain ⟨y, h4, h3⟩ := R.bind_ok h2
    refine ⟨ρ, S, x, sl, h1, fun v H1 T e1 is1 f1 => ⟨ρ, S, y, sl.ex e1, h4, fun w H2 T2 e2 is2 f2 => ?_⟩⟩
    unfold dItem at h3
    split at h3
    · rename_i l n
      split at h3
      · rename_i kk hk
        split at h3
        · rename_i z hz
          cases h3
          obtain ⟨p, kvs, T', rfl, g1, g2, g3, g4, rfl⟩ := (is1.ex e2).dic'
          obtain ⟨v', Tv, q1, q2, q3, q4⟩ := (dGet_is (k := kk) g2 g4 (List.nodup_cons.mp f1.nd).2).2 _ hz
          obtain rfl := keyOf_is hk is2
          exact ⟨p, v', rfl, q1 ▸ .inl ⟨kvs, kk, g1, rfl, rfl⟩, k v' H2 Tv (e1.trans e2) q2 ⟨q3, fun q hq => f1.fr q (List.mem_cons_of_mem _ (q4 q hq))⟩⟩
        · cases h3
      · cases h3
    · cases h3
def hasKey : M → M → R Bool
  | .dic l, k => match keyOf k with
    | some k => .ok (dGet l k).isSome
    | none => .no
  | _, _ => .no
theorem hasKey_is {K : PySem.W.Frag} {H : Hp} {x y : V} {m n : M} {S T : List Addr} {r : Bool} (h1 : IsM K H x m S) (nd : S.Nodup) (h2 : IsM K H y n T) (h : hasKey m n = .ok r) : ∃ p o, x = .ref p ∧ DGet H p y o ∧ o.isSome = r := by
  cases m with
  | dic l =>
    have h : (match keyOf n with
      | some k => R.ok (dGet l k).isSome
      | none => .no) = .ok r := h
    split at h
    · rename_i kk hk
      cases h
      obtain ⟨p, kvs, T', rfl, g1, g2, g3, g4, rfl⟩ := h1.dic'
      obtain ⟨d1, d2⟩ := dGet_is (k := kk) g2 g4 (List.nodup_cons.mp nd).2
      obtain rfl := keyOf_is hk h2
      refine ⟨p, _, rfl, .inl ⟨kvs, kk, g1, rfl, rfl⟩, ?_⟩
      cases q : dGet l kk with
      | none => rw [d1 q]; rfl
      | some z =>
        obtain ⟨v', Tv, q1, _⟩ := d2 z q
        rw [q1]; rfl
    · cases h
  | _ => cases h
theorem pcd_in (hu : X.A.units + 1 < cLine) (ha : PE X a (tD X.K Ua fa)) (hb : PE X b (tD X.K Ub fb)) : PC X .In a b (tD X.K [] fun ρ => fa ρ >>= fun x => fb ρ >>= fun y => hasKey y x >>= fun r => .ok (mB r)) :=
  ⟨fun pins s σ H Q I h => (pc_din hu ha hb).run pins s σ H Q I (by
    obtain ⟨ρ, S, m, sl, hm, k⟩ := h
    obtain ⟨x, h1, h2⟩ := R.bind_ok hm
    obtain ⟨y, h4, h3⟩ := R.bind_ok h2
    obtain ⟨r, h5, h6⟩ := R.bind_ok h3
    cases h6
    refine ⟨ρ, S, x, sl, h1, fun v H1 T e1 is1 f1 => ⟨ρ, S, y, sl.ex e1, h4, fun w H2 T2 e2 is2 f2 => ?_⟩⟩
    obtain ⟨p, o, g1, g2, rfl⟩ := hasKey_is is2 f2.nd (is1.ex e2) h5
    exact ⟨p, o, g1, g2, k _ H2 [] (e1.trans e2) (.im .bl) Fr.nil⟩)⟩
theorem pcd_notIn (hu : X.A.units + 1 < cLine) (ha : PE X a (tD X.K Ua fa)) (hb : PE X b (tD X.K Ub fb)) : PC X .NotIn a b (tD X.K [] fun ρ => fa ρ >>= fun x => fb ρ >>= fun y => hasKey y x >>= fun r => .ok (mB (!r))) :=
  ⟨fun pins s σ H Q I h => (pc_dnotin hu ha hb).run pins s σ H Q I (by
    obtain ⟨ρ, S, m, sl, hm, k⟩ := h
    obtain ⟨x, h1, h2⟩ := R.bind_ok hm
    obtain ⟨y, h4, h3⟩ := R.bind_ok h2
    obtain ⟨r, h5, h6⟩ := R.bind_ok h3
    cases h6
    refine ⟨ρ, S, x, sl, h1, fun v H1 T e1 is1 f1 => ⟨ρ, S, y, sl.ex e1, h4, fun w H2 T2 e2 is2 f2 => ?_⟩⟩
    obtain ⟨p, o, g1, g2, rfl⟩ := hasKey_is is2 f2.nd (is1.ex e2) h5
    exact ⟨p, o, g1, g2, k _ H2 [] (e1.trans e2) (.im .bl) Fr.nil⟩)⟩
theorem pd_pc {op : CmpOp} {f : Env → R M} (h : PC X op a b (tD X.K [] f)) (h1 : behindInMarks op b = false := by first | exact nobehind _ (by decide) (by decide) | rfl) : PE X (.Compare a [op] [b] pos) (tD X.K [] f) := pe_cmp h h1
theorem ptd_pc {op : CmpOp} {f : Env → R M} (h : PC X op a b (tD X.K [] f)) (h1 : behindInMarks op b = false := by first | exact nobehind _ (by decide) (by decide) | rfl) : PT X (.Compare a [op] [b] pos) (tDT X.K fun ρ => f ρ >>= asB) :=
  (pt_cmp h h1).imp fun _ _ _ q => imp_tB q
/-- d.get(k, x) -/
def dGet2 : M → M → M → R M
  | .dic l, k, x => match keyOf k with
    | some k => match dGet l k with
      | some m => .ok m
      | none => .ok x
    | none => .no
  | _, _, _ => .no
theorem pd_get2 (hu : X.A.units + 1 < cLine) (ha : PE X a (tD X.K Ua fa)) (hb : PE X b (tD X.K Ub fb)) (hc : PE X c (tD X.K Uc fc)) (m : M2 X a "get" apos b c cpos) : PE X (.Call (.Attribute a "get" apos) [b, c] [] cpos) (tD X.K (Ua ++ Uc) fun ρ => fa ρ >>= fun x => fb ρ >>= fun y => fc ρ >>= fun z => dGet2 x y z) :=
  (pe_dget2 hu ha hb hc m).imp fun σ H Q h => by
    obtain ⟨ρ, S, m, sl, hm, k⟩ := h
    obtain ⟨x, h1, h2⟩ := R.bind_ok hm
    obtain ⟨y, h4, h3⟩ := R.bind_ok h2
    obtain ⟨z, h5, h6⟩ := R.bind_ok h3
    cases x with
    | dic l =>
      have h6 : (match keyOf y with
        | some k => match dGet l k with
          | some m => R.ok m
          | none => .ok z
        | none => .no) = .ok m := h6
      split at h6
      · rename_i kk hk
        refine ⟨ρ, S, _, sl, h1, fun v H1 T e1 is1 f1 => ?_⟩
        obtain ⟨p, kvs, T', rfl, g1, g2, g3, g4, rfl⟩ := is1.dic'
        refine ⟨p, rfl, .inl ⟨kvs, g1⟩, ρ, S, y, sl.ex e1, h4, fun w H2 T2 e2 is2 f2 => ⟨ρ, S, z, sl.ex (e1.trans e2), h5, fun u H3 T3 e3 is3 f3 => ?_⟩⟩
        have e23 := e2.trans e3
        obtain ⟨d1, d2⟩ := dGet_is (k := kk) g2 (g4.ex e23) (List.nodup_cons.mp f1.nd).2
        obtain rfl := keyOf_is hk is2
        refine ⟨_, .inl ⟨kvs, kk, g1.imp (e23 _ _) (fun ⟨o, q⟩ => ⟨o, e23 _ _ q⟩), rfl, rfl⟩, ?_⟩
        split at h6
        · rename_i z' hz
          cases h6
          obtain ⟨v', Tv, q1, q2, q3, q4⟩ := d2 _ hz
          rw [q1]
          exact k v' H3 Tv (e1.trans e23) q2 ⟨q3, fun q hq => (f1.fr q (List.mem_cons_of_mem _ (q4 q hq))).imp id fun ⟨j, hj, q⟩ => ⟨j, List.mem_append_left _ hj, q⟩⟩
        · rename_i hz
          cases h6
          rw [d1 hz]
          exact k u H3 T3 (e1.trans e23) is3 (f3.mono (e1.trans e2) fun j hj => List.mem_append_right _ hj)
      · cases h6
    | _ => cases h6
theorem pd_get1 (hu : X.A.units + 1 < cLine) (ha : PE X a (tD X.K Ua fa)) (hb : PE X b (tD X.K Ub fb)) (m : M1 X a "get" apos b cpos) : PE X (.Call (.Attribute a "get" apos) [b] [] cpos) (tD X.K Ua fun ρ => fa ρ >>= fun x => fb ρ >>= fun y => dGet2 x y mN) :=
  (pe_dget1 hu ha hb m).imp fun σ H Q h => by
    obtain ⟨ρ, S, m, sl, hm, k⟩ := h
    obtain ⟨x, h1, h2⟩ := R.bind_ok hm
    obtain ⟨y, h4, h6⟩ := R.bind_ok h2
    cases x with
    | dic l =>
      have h6 : (match keyOf y with
        | some k => match dGet l k with
          | some m => R.ok m
          | none => .ok mN
        | none => .no) = .ok m := h6
      split at h6
      · rename_i kk hk
        refine ⟨ρ, S, _, sl, h1, fun v H1 T e1 is1 f1 => ?_⟩
        obtain ⟨p, kvs, T', rfl, g1, g2, g3, g4, rfl⟩ := is1.dic'
        refine ⟨p, rfl, .inl ⟨kvs, g1⟩, ρ, S, y, sl.ex e1, h4, fun w H2 T2 e2 is2 f2 => ?_⟩
        obtain ⟨d1, d2⟩ := dGet_is (k := kk) g2 (g4.ex e2) (List.nodup_cons.mp f1.nd).2
        obtain rfl := keyOf_is hk is2
        refine ⟨_, .inl ⟨kvs, kk, g1.imp (e2 _ _) (fun ⟨o, q⟩ => ⟨o, e2 _ _ q⟩), rfl, rfl⟩, ?_⟩
        split at h6
        · rename_i z' hz
          cases h6
          obtain ⟨v', Tv, q1, q2, q3, q4⟩ := d2 _ hz
          rw [q1]
          exact k v' H2 Tv (e1.trans e2) q2 ⟨q3, fun q hq => f1.fr q (List.mem_cons_of_mem _ (q4 q hq))⟩
        · rename_i hz
          cases h6
          rw [d1 hz]
          exact k .non H2 [] (e1.trans e2) (.im .non) Fr.nil
      · cases h6
    | _ => cases h6
end
end DL
/-! DL14: built-in functions on plain data. -/
namespace DL
open PySem PySem.Spec PyProof.Rows L2

section
variable {K : PySem.W.Frag} {H : Hp}
theorem Ars.one {vs : List V} {m : M} {Ts : List (List Addr)} (h : Ars K H vs [m] Ts) : ∃ v S, vs = [v] ∧ IsM K H v m S ∧ S.Nodup := by
  cases h with
  | cons h n r =>
    cases r
    exact ⟨_, _, rfl, h, n⟩
theorem Ars.two {vs : List V} {m n : M} {Ts : List (List Addr)} (h : Ars K H vs [m, n] Ts) : ∃ v S w T, vs = [v, w] ∧ IsM K H v m S ∧ S.Nodup ∧ IsM K H w n T ∧ T.Nodup := by
  cases h with
  | cons h nd r =>
    obtain ⟨w, T, rfl, h2, n2⟩ := r.one
    exact ⟨_, _, w, T, rfl, h, nd, h2, n2⟩
theorem Ars.three {vs : List V} {m n o : M} {Ts : List (List Addr)} (h : Ars K H vs [m, n, o] Ts) : ∃ v S w T u U, vs = [v, w, u] ∧ IsM K H v m S ∧ IsM K H w n T ∧ IsM K H u o U := by
  cases h with
  | cons h nd r =>
    obtain ⟨w, T, u, U, rfl, h2, _, h3, _⟩ := r.two
    exact ⟨_, _, w, T, u, U, rfl, h, h2, h3⟩
/-! lists of one kind -/
def allInt : List M → Option (List Int)
  | [] => some []
  | .im (.int i) :: r => (allInt r).map (i :: ·)
  | _ :: _ => none
def allStr : List M → Option (List Str)
  | [] => some []
  | .im (.str i) :: r => (allStr r).map (i :: ·)
  | _ :: _ => none
def allBl : List M → Option (List Bool)
  | [] => some []
  | .im (.bl i) :: r => (allBl r).map (i :: ·)
  | _ :: _ => none
@[simp] theorem allInt_of : ∀ l : List Int, allInt (l.map mI) = some l
  | [] => rfl
  | i :: l => by simp [allInt, allInt_of l]
@[simp] theorem allStr_of : ∀ l : List Str, allStr (l.map mS) = some l
  | [] => rfl
  | i :: l => by simp [allStr, allStr_of l]
@[simp] theorem allBl_of : ∀ l : List Bool, allBl (l.map mB) = some l
  | [] => rfl
  | i :: l => by simp [allBl, allBl_of l]
theorem allInt_is : ∀ {l : List M} {k : List Int} {vs : List V} {S : List Addr}, allInt l = some k → IsMs K H vs l S → l = k.map mI ∧ vs = k.map V.int
  | [], k, vs, S, h, is => by
    cases h
    cases is
    exact ⟨rfl, rfl⟩
  | m :: l, k, vs, S, h, is => by
    cases is with
    | cons h1 r =>
      unfold allInt at h
      split at h
      · rename_i q; cases q
      · rename_i i r' q
        cases q
        cases q2 : allInt l with
        | none => rw [q2] at h; cases h
        | some k' =>
          rw [q2] at h
          cases h
          obtain ⟨e1, e2⟩ := allInt_is q2 r
          cases h1.int
          exact ⟨by rw [e1]; rfl, by rw [e2]; rfl⟩
      · cases h
theorem allStr_is : ∀ {l : List M} {k : List Str} {vs : List V} {S : List Addr}, allStr l = some k → IsMs K H vs l S → l = k.map mS ∧ vs = k.map V.str
  | [], k, vs, S, h, is => by
    cases h
    cases is
    exact ⟨rfl, rfl⟩
  | m :: l, k, vs, S, h, is => by
    cases is with
    | cons h1 r =>
      unfold allStr at h
      split at h
      · rename_i q; cases q
      · rename_i i r' q
        cases q
        cases q2 : allStr l with
        | none => rw [q2] at h; cases h
        | some k' =>
          rw [q2] at h
          cases h
          obtain ⟨e1, e2⟩ := allStr_is q2 r
          cases h1.str
          exact ⟨by rw [e1]; rfl, by rw [e2]; rfl⟩
      · cases h
theorem allBl_is : ∀ {l : List M} {k : List Bool} {vs : List V} {S : List Addr}, allBl l = some k → IsMs K H vs l S → l = k.map mB ∧ vs = k.map V.bl
  | [], k, vs, S, h, is => by
    cases h
    cases is
    exact ⟨rfl, rfl⟩
  | m :: l, k, vs, S, h, is => by
    cases is with
    | cons h1 r =>
      unfold allBl at h
      split at h
      · rename_i q; cases q
      · rename_i i r' q
        cases q
        cases q2 : allBl l with
        | none => rw [q2] at h; cases h
        | some k' =>
          rw [q2] at h
          cases h
          obtain ⟨e1, e2⟩ := allBl_is q2 r
          cases h1.bl
          exact ⟨by rw [e1]; rfl, by rw [e2]; rfl⟩
      · cases h
theorem strs_is : ∀ l : List Str, IsIs K H (l.map V.str) (l.map I.str)
  | [] => .nil
  | i :: l => .cons .str (strs_is l)
end

/-! ### order -/
def sortI (l : List Int) : List Int := l.mergeSort fun a b => decide (a ≤ b)
def sortS (l : List Str) : List Str := l.mergeSort fun a b => !sLt b a
theorem sortI_eq {l k : List Int} (p : k.Perm l) (s : k.Pairwise (· ≤ ·)) : k = sortI l := by
  refine List.Perm.eq_of_pairwise (le := fun a b => a ≤ b) (fun a b _ _ h1 h2 => Int.le_antisymm h1 h2) s ?_ (p.trans (List.mergeSort_perm _ _).symm)
  refine List.Pairwise.imp (fun h => of_decide_eq_true h) (List.pairwise_mergeSort (fun a b c h1 h2 => ?_) (fun a b => ?_) l)
  · simp only [decide_eq_true_eq] at *; omega
  · simp only [Bool.or_eq_true, decide_eq_true_eq]; omega
theorem lt_tri (a b : List Nat) : a < b ∨ a = b ∨ b < a := by
  by_cases h : a < b
  · exact .inl h
  · by_cases h' : b < a
    · exact .inr (.inr h')
    · exact .inr (.inl (List.le_antisymm (List.not_lt.mp h') (List.not_lt.mp h)))
theorem sLt_trans {a b c : Str} (h1 : sLt b a = false) (h2 : sLt c b = false) : sLt c a = false := by
  unfold sLt at *
  simp only [decide_eq_false_iff_not, List.not_lt] at *
  exact List.le_trans h1 h2
theorem sLt_anti {a b : Str} (h1 : sLt b a = false) (h2 : sLt a b = false) : a = b := by
  unfold sLt at *
  simp only [decide_eq_false_iff_not, List.not_lt] at *
  have := List.le_antisymm h1 h2
  cases a; cases b
  simp only [Str.mk.injEq]
  exact Array.toList_inj.mp this
theorem sortS_pair (l : List Str) : (sortS l).Pairwise fun a b => sLt b a = false := by
  refine List.Pairwise.imp (fun {a b} (h : (!sLt b a) = true) => by simpa using h) (List.pairwise_mergeSort (fun a b c h1 h2 => ?_) (fun a b => ?_) l)
  · simp only [Bool.not_eq_true'] at *
    exact sLt_trans h1 h2
  · simp only [Bool.or_eq_true, Bool.not_eq_true']
    unfold sLt
    simp only [decide_eq_false_iff_not, List.not_lt]
    exact (List.le_total _ _)
theorem sortS_eq' {l k : List Str} (p : k.Perm l) (s : k.Pairwise fun a b => sLt b a = false) : k = sortS l :=
  List.Perm.eq_of_pairwise (le := fun a b => sLt b a = false) (fun a b _ _ h1 h2 => sLt_anti h1 h2) s (sortS_pair l) (p.trans (List.mergeSort_perm _ _).symm)
end DL
/-! DL15: built-in functions on plain data, their rules. -/
namespace DL
open PySem PySem.Spec PyProof.Rows L2

theorem rising_pair : ∀ (l : List Str) (p : Str), risingS p l = true → (p :: l).Pairwise fun a b => sLt b a = false
  | [], p, _ => by simp
  | x :: r, p, h => by
    have h : (!ltCps x.cps.toList p.cps.toList && risingS x r) = true := h
    rw [Bool.and_eq_true, Bool.not_eq_true'] at h
    have ih := rising_pair r x h.2
    have e : sLt x p = false := by
      unfold sLt
      rw [← ltCps_eq]
      exact h.1
    refine List.pairwise_cons.mpr ⟨fun b hb => ?_, ih⟩
    rcases List.mem_cons.mp hb with rfl | hb
    · exact e
    · exact sLt_trans e ((List.pairwise_cons.mp ih).1 b hb)
theorem sortS_eq {l k : List Str} (p : k.Perm l) (s : sortedS k = true) : k = sortS l := by
  refine sortS_eq' p ?_
  cases k with
  | nil => exact .nil
  | cons x r => exact rising_pair r x s

section
variable {X : Cx}
/-! ### len -/
theorem call_lenF : CallR X (.builtin "len") (fun xs H Q => ∃ a kvs, xs = [V.ref a] ∧ Rd H a (.dK kvs) ∧ Q (.int kvs.length) H) := fun pins s σ H xs us Q Iv r h => by
  obtain ⟨a, kvs, ex, hd, q⟩ := h
  subst ex
  obtain ⟨u, eu, rx⟩ := vals1 r
  subst eu
  cases rx
  exact d_len Iv hd fun t s' Iv' => ⟨.int _, H, Iv', ⟨t, rfl⟩, q⟩
def lenM : List M → R M
  | [.im (.str z)] => if z.length ≤ sizeLine then .ok (mI z.length) else .no
  | [.im (.tup l)] => .ok (mI l.length)
  | [.lst l] => .ok (mI l.length)
  | [.tpm l] => .ok (mI l.length)
  | [.scr l] => .ok (mI l.length)
  | [.dic l] => .ok (mI l.length)
  | _ => .no
theorem c_len : CallR X (.builtin "len") (rDC X.K lenM) := cr_of (call_len.or call_lenF) fun xs H Q q => by
  obtain ⟨ms, Ts, r, h1, h2, k⟩ := q
  have k' : ∀ {n : Nat}, r = mI n → Q (.int n) H := fun e => by
    subst e
    exact k _ H [] (Ex.refl H) (.im .int) .nil
  unfold lenM at h2
  split at h2
  · rename_i z
    obtain ⟨v, S, rfl, is, _⟩ := h1.one
    split at h2
    · rename_i hz
      cases h2
      cases is.str
      exact .inl ⟨_, z.length, rfl, ⟨hz, rfl⟩, k' rfl⟩
    · cases h2
  · rename_i l
    obtain ⟨v, S, rfl, is, _⟩ := h1.one
    cases h2
    obtain ⟨a, vs, rfl, s1, i1⟩ := is.tup
    exact .inl ⟨_, l.length, rfl, .inr ⟨vs, s1, i1.length.symm⟩, k' rfl⟩
  · rename_i l
    obtain ⟨v, S, rfl, is, _⟩ := h1.one
    cases h2
    obtain ⟨a, vs, T, rfl, s1, i1, _⟩ := is.lst'
    exact .inl ⟨_, l.length, rfl, .inl ⟨vs, .of s1, i1.length.symm⟩, k' rfl⟩
  · rename_i l
    obtain ⟨v, S, rfl, is, _⟩ := h1.one
    cases h2
    cases is with
    | tpm s1 i1 => exact .inl ⟨_, l.length, rfl, .inr ⟨_, s1, i1.length.symm⟩, k' rfl⟩
  · rename_i l
    obtain ⟨v, S, rfl, is, _⟩ := h1.one
    cases h2
    obtain ⟨a, rfl, s1⟩ := is.scrL'
    exact .inl ⟨_, l.length, rfl, .inl ⟨_, s1, by simp⟩, k' rfl⟩
  · rename_i l
    obtain ⟨v, S, rfl, is, _⟩ := h1.one
    cases h2
    obtain ⟨a, kvs, T, rfl, g1, g2, _⟩ := is.dic'
    refine .inr ⟨a, kvs, rfl, g1, k' ?_⟩
    have := congrArg List.length g2
    simp only [List.length_map] at this
    rw [this]
  · cases h2

/-! ### of whole numbers -/
def fun1 (g : Int → I) : List M → R M
  | [.im (.int i)] => .ok (.im (g i))
  | _ => .no
theorem fun1_is {g : Int → I} {ms : List M} {r : M} (h : fun1 g ms = .ok r) : ∃ i, ms = [mI i] ∧ r = .im (g i) := by
  unfold fun1 at h
  split at h
  · cases h; exact ⟨_, rfl, rfl⟩
  · cases h
abbrev absM : List M → R M := fun1 fun i => .int (if i < 0 then -i else i)
theorem c_abs : CallR X (.builtin "abs") (rDC X.K absM) := cr_of call_abs fun xs H Q q => by
  obtain ⟨ms, Ts, r, h1, h2, k⟩ := q
  obtain ⟨i, rfl, rfl⟩ := fun1_is h2
  obtain ⟨v, S, rfl, is, _⟩ := h1.one
  cases is.int
  exact ⟨i, rfl, k _ H [] (Ex.refl H) (.im .int) .nil⟩
def fun2 (g : Int → Int → I) : List M → R M
  | [.im (.int i), .im (.int j)] => .ok (.im (g i j))
  | _ => .no
theorem fun2_is {g : Int → Int → I} {ms : List M} {r : M} (h : fun2 g ms = .ok r) : ∃ i j, ms = [mI i, mI j] ∧ r = .im (g i j) := by
  unfold fun2 at h
  split at h
  · cases h; exact ⟨_, _, rfl, rfl⟩
  · cases h
abbrev min2M : List M → R M := fun2 fun i j => .int (if j < i then j else i)
abbrev max2M : List M → R M := fun2 fun i j => .int (if j > i then j else i)
theorem c_min2 (hc : X.calm = true) : CallR X (.builtin "min") (rDC X.K min2M) := cr_of (call_min2 hc) fun xs H Q q => by
  obtain ⟨ms, Ts, r, h1, h2, k⟩ := q
  obtain ⟨i, j, rfl, rfl⟩ := fun2_is h2
  obtain ⟨v, S, w, T, rfl, is, _, is2, _⟩ := h1.two
  cases is.int
  cases is2.int
  exact ⟨i, j, rfl, k _ H [] (Ex.refl H) (.im .int) .nil⟩
theorem c_max2 (hc : X.calm = true) : CallR X (.builtin "max") (rDC X.K max2M) := cr_of (call_max2 hc) fun xs H Q q => by
  obtain ⟨ms, Ts, r, h1, h2, k⟩ := q
  obtain ⟨i, j, rfl, rfl⟩ := fun2_is h2
  obtain ⟨v, S, w, T, rfl, is, _, is2, _⟩ := h1.two
  cases is.int
  cases is2.int
  exact ⟨i, j, rfl, k _ H [] (Ex.refl H) (.im .int) .nil⟩
def intM : List M → R M
  | [.im (.int i)] => .ok (mI i)
  | [.im (.bl b)] => .ok (mI (if b then 1 else 0))
  | [.im (.str a)] => match PySem.intText? a with
    | some n => if a.length ≤ 640 then .ok (mI n) else .no
    | none => .no
  | _ => .no
theorem c_int : CallR X (.type "int") (rDC X.K intM) := cr_of (call_int1.or call_int_str) fun xs H Q q => by
  obtain ⟨ms, Ts, r, h1, h2, k⟩ := q
  unfold intM at h2
  split at h2
  · rename_i i
    obtain ⟨v, S, rfl, is, _⟩ := h1.one
    cases h2
    cases is.int
    exact .inl (.inl ⟨i, rfl, k _ H [] (Ex.refl H) (.im .int) .nil⟩)
  · rename_i i
    obtain ⟨v, S, rfl, is, _⟩ := h1.one
    cases h2
    cases is.bl
    exact .inl (.inr ⟨i, rfl, k _ H [] (Ex.refl H) (.im .int) .nil⟩)
  · rename_i a
    obtain ⟨v, S, rfl, is, _⟩ := h1.one
    split at h2
    · rename_i n hn
      split at h2
      · rename_i hl
        cases h2
        cases is.str
        exact .inr ⟨a, n, rfl, hn, hl, k _ H [] (Ex.refl H) (.im .int) .nil⟩
      · cases h2
    · cases h2
  · cases h2
def strM : List M → R M
  | [.im (.int i)] => if i.natAbs.log2 < 1920 then .ok (mS (toString i)) else .no
  | [.im (.str a)] => .ok (mS a)
  | _ => .no
theorem c_str : CallR X (.type "str") (rDC X.K strM) := cr_of (call_str_int.or SkE.call_str_str) fun xs H Q q => by
  obtain ⟨ms, Ts, r, h1, h2, k⟩ := q
  unfold strM at h2
  split at h2
  · rename_i i
    obtain ⟨v, S, rfl, is, _⟩ := h1.one
    split at h2
    · rename_i hl
      cases h2
      cases is.int
      exact .inl ⟨i, rfl, hl, k _ H [] (Ex.refl H) (.im .str) .nil⟩
    · cases h2
  · rename_i a
    obtain ⟨v, S, rfl, is, _⟩ := h1.one
    cases h2
    cases is.str
    exact .inr ⟨a, rfl, k _ H [] (Ex.refl H) (.im .str) .nil⟩
  · cases h2
def ordM : List M → R M
  | [.im (.str x)] => if x.length = 1 then .ok (mI (x.cps.getD 0 0 : Nat)) else .no
  | _ => .no
theorem c_ord : CallR X (.builtin "ord") (rDC X.K ordM) := cr_of call_ord fun xs H Q q => by
  obtain ⟨ms, Ts, r, h1, h2, k⟩ := q
  unfold ordM at h2
  split at h2
  · rename_i a
    obtain ⟨v, S, rfl, is, _⟩ := h1.one
    split at h2
    · rename_i hl
      cases h2
      cases is.str
      exact ⟨a, rfl, hl, k _ H [] (Ex.refl H) (.im .int) .nil⟩
    · cases h2
  · cases h2

/-! ### of lists -/
def sumM : List M → R M
  | [.lst l] => match allInt l with
    | some ns => .ok (mI ns.sum)
    | none => .no
  | _ => .no
theorem c_sum (hc : X.calm = true) : CallR X (.builtin "sum") (rDC X.K sumM) := cr_of (cr_sum hc) fun xs H Q q => by
  obtain ⟨ms, Ts, r, h1, h2, k⟩ := q
  unfold sumM at h2
  split at h2
  · rename_i l
    obtain ⟨v, S, rfl, is, _⟩ := h1.one
    split at h2
    · rename_i ns hn
      cases h2
      obtain ⟨a, vs, T, rfl, s1, i1, _⟩ := is.lst'
      obtain ⟨_, rfl⟩ := allInt_is hn i1
      exact ⟨a, ns, rfl, .of s1, k _ H [] (Ex.refl H) (.im .int) .nil⟩
    · cases h2
  · cases h2
def quaM (f : List Bool → Bool) : List M → R M
  | [.lst l] => match allBl l with
    | some ns => .ok (mB (f ns))
    | none => .no
  | _ => .no
abbrev allM : List M → R M := quaM fun l => l.all id
abbrev anyM : List M → R M := quaM fun l => l.any id
theorem c_qua {n : String} {f : List Bool → Bool} (h0 : CallR X (.builtin n) (fun vs H Q => ∃ (a : Addr) (bs : List Bool), vs = [V.ref a] ∧ SqL X.K H a (bs.map V.bl) ∧ Q (.bl (f bs)) H)) : CallR X (.builtin n) (rDC X.K (quaM f)) := cr_of h0 fun xs H Q q => by
  obtain ⟨ms, Ts, r, h1, h2, k⟩ := q
  unfold quaM at h2
  split at h2
  · rename_i l
    obtain ⟨v, S, rfl, is, _⟩ := h1.one
    split at h2
    · rename_i ns hn
      cases h2
      obtain ⟨a, vs, T, rfl, s1, i1, _⟩ := is.lst'
      obtain ⟨_, rfl⟩ := allBl_is hn i1
      exact ⟨a, ns, rfl, .of s1, k _ H [] (Ex.refl H) (.im .bl) .nil⟩
    · cases h2
  · cases h2
theorem c_all (hc : X.calm = true) : CallR X (.builtin "all") (rDC X.K allM) := c_qua (cr_all hc)
theorem c_any (hc : X.calm = true) : CallR X (.builtin "any") (rDC X.K anyM) := c_qua (cr_any hc)

/-! ### sorted -/
def txtKeys : List (Key × M) → Option (List Str)
  | [] => some []
  | (.inr x, _) :: r => (txtKeys r).map (x :: ·)
  | _ :: _ => none
theorem txtKeys_is : ∀ {l : List (Key × M)} {ks : List Str}, txtKeys l = some ks → l.map (·.1) = ks.map Sum.inr
  | [], ks, h => by cases h; rfl
  | (.inl _, _) :: _, _, h => by cases h
  | (.inr x, m) :: l, ks, h => by
    have h : (txtKeys l).map (x :: ·) = some ks := h
    cases q : txtKeys l with
    | none => rw [q] at h; cases h
    | some k =>
      rw [q] at h
      cases h
      rw [List.map_cons, List.map_cons, txtKeys_is q]
def sortedM : List M → R M
  | [.dic l] => match txtKeys l with
    | some ks => if ks.length < 64 then .ok (.lst ((sortS ks).map mS)) else .no
    | none => .no
  | [.lst l] => match allInt l with
    | some ks => if ks.length < 64 then .ok (.lst ((sortI ks).map mI)) else .no
    | none => match allStr l with
      | some ks => if ks.length < 64 then .ok (.lst ((sortS ks).map mS)) else .no
      | none => .no
  | _ => .no
theorem lst_strs {K : PySem.W.Frag} {H : Hp} {p : Addr} (l : List Str) (hp : H p = none) : IsM K (L2.upd H p (.lst (l.map V.str))) (.ref p) (.lst (l.map mS)) [p] := by
  have := laid_lst (strs_is (K := K) (H := H) l) hp
  rwa [List.map_map] at this
theorem lst_ints {K : PySem.W.Frag} {H : Hp} {p : Addr} (l : List Int) (hp : H p = none) : IsM K (L2.upd H p (.lst (l.map V.int))) (.ref p) (.lst (l.map mI)) [p] := by
  have := laid_lst (ints_is (K := K) (H := H) l) hp
  rwa [List.map_map] at this
theorem c_sorted (hc : X.calm = true) : CallR X (.builtin "sorted") (rDC X.K sortedM) := cr_of ((call_sortedD hc).or (cr_sorted.or cr_sortedS)) fun xs H Q q => by
  obtain ⟨ms, Ts, r, h1, h2, k⟩ := q
  unfold sortedM at h2
  split at h2
  · rename_i l
    obtain ⟨v, S, rfl, is, _⟩ := h1.one
    split at h2
    · rename_i ks hk
      split at h2
      · rename_i hl
        cases h2
        obtain ⟨a, kvs, T, rfl, g1, g2, _⟩ := is.dic'
        refine .inl ⟨a, kvs, ks, rfl, g1, g2.trans (txtKeys_is hk), hl, fun ys p hp hs hf => ?_⟩
        rw [sortS_eq hp hs]
        exact k _ _ [p] (Ex.new hf) (lst_strs _ hf) (new1 hf)
      · cases h2
    · cases h2
  · rename_i l
    obtain ⟨v, S, rfl, is, _⟩ := h1.one
    obtain ⟨a, vs, T, rfl, s1, i1, _⟩ := is.lst'
    split at h2
    · rename_i ks hk
      split at h2
      · rename_i hl
        cases h2
        obtain ⟨_, rfl⟩ := allInt_is hk i1
        refine .inr (.inl ⟨a, ks, rfl, .of s1, hl, fun ys p hp hs hf => ?_⟩)
        rw [sortI_eq hp hs]
        exact k _ _ [p] (Ex.new hf) (lst_ints _ hf) (new1 hf)
      · cases h2
    · split at h2
      · rename_i ks hk
        split at h2
        · rename_i hl
          cases h2
          obtain ⟨_, rfl⟩ := allStr_is hk i1
          refine .inr (.inr ⟨a, ks, rfl, .of s1, hl, fun ys p hp hs hf => ?_⟩)
          rw [sortS_eq hp hs]
          exact k _ _ [p] (Ex.new hf) (lst_strs _ hf) (new1 hf)
        · cases h2
      · cases h2
  · cases h2
end
end DL
/-! DL16: list, tuple, dict as functions; methods of texts; f-strings. -/
namespace DL
open PySem PySem.Spec PyProof.Rows L2

section
variable {X : Cx}
/-! ### tuple(x), list(x) -/
def tupleM : List M → R M
  | [.lst l] => match allIm l with
    | some k => .ok (mT k)
    | none => .no
  | [.im (.tup l)] => .ok (mT l)
  | _ => .no
theorem c_tuple : CallR X (.type "tuple") (rDC X.K tupleM) := cr_of call_tuple_of fun xs H Q q => by
  obtain ⟨ms, Ts, r, h1, h2, k⟩ := q
  unfold tupleM at h2
  split at h2
  · rename_i l
    obtain ⟨v, S, rfl, is, _⟩ := h1.one
    split at h2
    · rename_i kk hk
      cases h2
      obtain ⟨a, vs, T, rfl, s1, i1, _⟩ := is.lst'
      obtain rfl := allIm_map hk
      obtain ⟨_, i1⟩ := i1.of_ims
      exact ⟨a, vs, rfl, .inl ⟨.of s1, fun p hp => k _ _ [] (Ex.new hp) (laid_im i1 hp) .nil⟩⟩
    · cases h2
  · rename_i l
    obtain ⟨v, S, rfl, is, _⟩ := h1.one
    cases h2
    obtain ⟨a, vs, rfl, s1, i1⟩ := is.tup
    exact ⟨a, vs, rfl, .inr ⟨s1, k _ H [] (Ex.refl H) is.im_nil.2.im' .nil⟩⟩
  · cases h2
def kI : Key → I
  | .inl i => .int i
  | .inr x => .str x
theorem kI_is {K : PySem.W.Frag} {H : Hp} : ∀ k : Key, IsI K H (kV k) (kI k)
  | .inl _ => .int
  | .inr _ => .str
def listM : List M → R M
  | [.lst l] => match allIm l with
    | some k => .ok (.lst (k.map .im))
    | none => .no
  | [.im (.tup l)] => .ok (.lst (l.map .im))
  | [.dic l] => .ok (.lst (l.map fun kv => .im (kI kv.1)))
  | _ => .no
theorem keys_is {K : PySem.W.Frag} {H : Hp} : ∀ {kvs : List (Key × V)} {l : List (Key × M)}, kvs.map (·.1) = l.map (·.1) → IsIs K H (kvs.map fun kv => kV kv.1) (l.map fun kv => kI kv.1)
  | [], [], _ => .nil
  | [], _ :: _, h => by simp at h
  | _ :: _, [], h => by simp at h
  | (g, v) :: kvs, (g', m) :: l, h => by
    simp only [List.map_cons, List.cons.injEq] at h
    obtain ⟨rfl, h⟩ := h
    exact .cons (kI_is g) (keys_is h)
theorem c_list (hc : X.calm = true) : CallR X (.type "list") (rDC X.K listM) := cr_of (call_list_of.or (call_listD hc)) fun xs H Q q => by
  obtain ⟨ms, Ts, r, h1, h2, k⟩ := q
  unfold listM at h2
  split at h2
  · rename_i l
    obtain ⟨v, S, rfl, is, _⟩ := h1.one
    split at h2
    · rename_i kk hk
      cases h2
      obtain ⟨a, vs, T, rfl, s1, i1, _⟩ := is.lst'
      obtain rfl := allIm_map hk
      obtain ⟨_, i1⟩ := i1.of_ims
      exact .inl ⟨a, vs, rfl, .inl (.of s1), fun p hp => k _ _ [p] (Ex.new hp) (laid_lst i1 hp) (new1 hp)⟩
    · cases h2
  · rename_i l
    obtain ⟨v, S, rfl, is, _⟩ := h1.one
    cases h2
    obtain ⟨a, vs, rfl, s1, i1⟩ := is.tup
    exact .inl ⟨a, vs, rfl, .inr s1, fun p hp => k _ _ [p] (Ex.new hp) (laid_lst i1 hp) (new1 hp)⟩
  · rename_i l
    obtain ⟨v, S, rfl, is, _⟩ := h1.one
    cases h2
    obtain ⟨a, kvs, T, rfl, g1, g2, _⟩ := is.dic'
    refine .inr ⟨a, kvs, rfl, g1, fun p hp => k _ _ [p] (Ex.new hp) ?_ (new1 hp)⟩
    have := laid_lst (keys_is (K := X.K) (H := H) g2) hp
    rwa [List.map_map] at this
  · cases h2

/-! ### dict(x) -/
def imVals (l : List (Key × M)) : Option (List I) := allIm (l.map (·.2))
def pairI : M → Option (Key × I)
  | .im (.tup [.int i, v]) => some (.inl i, v)
  | .im (.tup [.str i, v]) => some (.inr i, v)
  | _ => none
def pairsM : List M → Option (List (Key × I))
  | [] => some []
  | m :: r => match pairI m, pairsM r with
    | some a, some b => some (a :: b)
    | _, _ => none
def mergeM (l : List (Key × M)) (ps : List (Key × I)) : List (Key × M) := ps.foldl (fun acc kv => dPut acc kv.1 (.im kv.2)) l
def dictM : List M → R M
  | [.dic l] => match imVals l with
    | some _ => .ok (.dic l)
    | none => .no
  | [.lst l] => match pairsM l with
    | some ps => .ok (.dic (mergeM [] ps))
    | none => .no
  | _ => .no
theorem merge_is {K : PySem.W.Frag} {H : Hp} : ∀ {ps : List (Key × I)} {qs : List (Key × V)} {kvs : List (Key × V)} {l : List (Key × M)}, qs.map (·.1) = ps.map (·.1) → IsIs K H (qs.map (·.2)) (ps.map (·.2)) →
    kvs.map (·.1) = l.map (·.1) → (l.map (·.1)).Nodup → IsMs K H (kvs.map (·.2)) (l.map (·.2)) [] →
    (mergeK kvs qs).map (·.1) = (mergeM l ps).map (·.1) ∧ ((mergeM l ps).map (·.1)).Nodup ∧ IsMs K H ((mergeK kvs qs).map (·.2)) ((mergeM l ps).map (·.2)) []
  | [], [], kvs, l, _, _, h, nk, is => ⟨h, nk, is⟩
  | [], _ :: _, _, _, h, _, _, _, _ => by simp at h
  | _ :: _, [], _, _, h, _, _, _, _ => by simp at h
  | (g, i) :: ps, (g', v) :: qs, kvs, l, h0, is0, h, nk, is => by
    simp only [List.map_cons, List.cons.injEq] at h0
    obtain ⟨rfl, h0⟩ := h0
    have is0 : IsIs K H (v :: qs.map (·.2)) (i :: ps.map (·.2)) := is0
    cases is0 with
    | cons i1 i2 =>
      obtain ⟨a, b, T', c, nd, e⟩ := dPut_is (k := g') (x := .im i) (w := v) i1.im' h nk is (by simp)
      have eT : T' = [] := by
        cases T' with
        | nil => rfl
        | cons z zs => exact absurd (e z List.mem_cons_self) (by simp)
      subst eT
      exact merge_is (ps := ps) (qs := qs) (kvs := putK kvs g' v) (l := dPut l g' (.im i)) h0 i2 a b c
theorem pairI_is {K : PySem.W.Frag} {H : Hp} {v : V} {m : M} {S : List Addr} {p : Key × I} (h : pairI m = some p) (is : IsM K H v m S) : ∃ a w, v = .ref a ∧ SqT K H a [kV p.1, w] ∧ IsI K H w p.2 := by
  unfold pairI at h
  split at h
  · cases h
    obtain ⟨a, vs, rfl, s1, i1⟩ := is.tup
    cases i1 with
    | cons h1 r =>
      cases r with
      | cons h2 r =>
        cases r
        cases h1
        exact ⟨a, _, rfl, s1, h2⟩
  · cases h
    obtain ⟨a, vs, rfl, s1, i1⟩ := is.tup
    cases i1 with
    | cons h1 r =>
      cases r with
      | cons h2 r =>
        cases r
        cases h1
        exact ⟨a, _, rfl, s1, h2⟩
  · cases h
theorem pairsM_is {K : PySem.W.Frag} {H : Hp} : ∀ {l : List M} {vs : List V} {S : List Addr} {ps : List (Key × I)}, pairsM l = some ps → IsMs K H vs l S →
    ∃ (as : List Addr) (qs : List (Key × V)), vs = as.map V.ref ∧ Paired (fun p kv => SqT K H p [kV kv.1, kv.2]) as qs ∧ qs.map (·.1) = ps.map (·.1) ∧ IsIs K H (qs.map (·.2)) (ps.map (·.2))
  | [], vs, S, ps, h, is => by
    cases h
    cases is
    exact ⟨[], [], rfl, .nil, rfl, .nil⟩
  | m :: l, vs, S, ps, h, is => by
    cases is with
    | cons h1 r =>
      unfold pairsM at h
      split at h
      · rename_i a b ha hb
        cases h
        obtain ⟨p, w, rfl, g1, g2⟩ := pairI_is ha h1
        obtain ⟨as, qs, rfl, e2, e3, e4⟩ := pairsM_is hb r
        exact ⟨p :: as, (a.1, w) :: qs, rfl, .cons g1 e2, by simp [e3], .cons g2 e4⟩
      · cases h
theorem c_dict (hc : X.calm = true) : CallR X (.type "dict") (rDC X.K dictM) := cr_of (call_dictD.or (call_dictP hc)) fun xs H Q q => by
  obtain ⟨ms, Ts, r, h1, h2, k⟩ := q
  unfold dictM at h2
  split at h2
  · rename_i l
    obtain ⟨v, S, rfl, is, _⟩ := h1.one
    split at h2
    · rename_i kk hk
      cases h2
      obtain ⟨a, kvs, T, rfl, g1, g2, g3, g4, _⟩ := is.dic'
      unfold imVals at hk
      rw [allIm_map hk] at g4
      obtain ⟨rfl, g5⟩ := g4.of_ims
      refine .inl ⟨a, kvs, rfl, g1, fun p hp => k _ _ [p] (Ex.new hp) (.dic (.of upd_same) g2 g3 ?_) (new1 hp)⟩
      rw [allIm_map hk]
      exact IsMs.ims (g5.keep (Ex.tk (Ex.new hp)))
    · cases h2
  · rename_i l
    obtain ⟨v, S, rfl, is, _⟩ := h1.one
    split at h2
    · rename_i ps hk
      cases h2
      obtain ⟨a, vs, T, rfl, s1, i1, _⟩ := is.lst'
      obtain ⟨as, qs, rfl, e2, e3, e4⟩ := pairsM_is hk i1
      refine .inr ⟨a, as, qs, rfl, .of s1, e2, fun p hp => ?_⟩
      obtain ⟨c1, c2, c3⟩ := merge_is (kvs := []) (l := []) e3 (e4.keep (Ex.tk (Ex.new (o := .dK (mergeK [] qs)) hp))) rfl List.nodup_nil .nil
      exact k _ _ [p] (Ex.new hp) (.dic (.of upd_same) c1 c2 c3) (new1 hp)
    · cases h2
  · cases h2

/-! ### list(d.items()) -/
variable {a b c e : Expr} {es : List Expr} {Ua Ub U : List Nat} {fa fb fc : Env → R M} {G : Env → R (List M)} {pos p2 apos cpos : Pos}
theorem putT_nf : ∀ (ts : List Addr) (q : List (Key × V)) {H0 : Hp} {a : Addr}, NF H0 a → NF (LiI.putT H0 ts q) a
  | t :: ts, p :: q, H0, a, n => putT_nf ts q (n.upd (fun _ _ z => nomatch z))
  | [], [], _, _, n => n
  | [], _ :: _, _, _, n => n
  | _ :: _, [], _, _, n => n
/-- the new list of new pairs, tracked -/
theorem laid_items {pins : List (Addr × Obj)} {σ : L2.St} {H0 : Hp} {s0 : Shared} {hp : Heap} {tk : Nat} {q : List (Key × V)} {r : List (Key × Value)} {acc : Array Value} {cp : Nat} {ts : List Addr} (Iv : Inv X pins σ H0 s0) (z : q.length ≤ sizeLine) (rel : KV q r)
    (kp : ∀ b o, s0.heap.get? b = some o → hp.get? b = some o) (hL : hp.get? s0.heap.objs.size = some { cls := .type "list", dict := none, data := .seq acc cp, slots := #[] }) (ln : ts.length = r.length) (gr : PySem.W.KdxG (mixKind X.prog X.w) r s0.heap.objs.size hp ts) (ea : acc.toList = ts.map Value.ref) :
    Ex H0 (LiI.putT (L2.upd H0 s0.heap.objs.size (.lst (ts.map V.ref))) ts q) ∧ H0 s0.heap.objs.size = none ∧ LiI.putT (L2.upd H0 s0.heap.objs.size (.lst (ts.map V.ref))) ts q s0.heap.objs.size = some (.lst (ts.map V.ref)) ∧
      Paired (fun (t : Addr) (p : Key × V) => LiI.putT (L2.upd H0 s0.heap.objs.size (.lst (ts.map V.ref))) ts q t = some (.tup [kV p.1, p.2])) ts q ∧ Inv X pins σ (LiI.putT (L2.upd H0 s0.heap.objs.size (.lst (ts.map V.ref))) ts q) { s0 with heap := hp, toks := tk } := by
  have lq : q.length = r.length := Paired.length rel
  have nIn : s0.heap.objs.size ∉ ts := fun y => Nat.lt_irrefl _ (gr.above _ y)
  have ndt : ts.Nodup := gr.rise.imp fun {a b} (y : a < b) => Nat.ne_of_lt y
  have fr : ∀ t ∈ ts, H0 t = none := fun t ht => Iv.hok.fresh (Nat.le_of_lt (gr.above t ht))
  have frL : H0 s0.heap.objs.size = none := Iv.hok.fresh (Nat.le_refl _)
  have at2 := LiI.putT_at ts q (L2.upd H0 s0.heap.objs.size (.lst (ts.map V.ref))) (ln.trans lq.symm) ndt
  have out : ∀ b, b ∉ ts → b ≠ s0.heap.objs.size → LiI.putT (L2.upd H0 s0.heap.objs.size (.lst (ts.map V.ref))) ts q b = H0 b := fun b y1 y2 => (LiI.putT_off ts q _ y1).trans (upd_ne y2)
  have old : ∀ b o, s0.heap.get? b = some o → b ∉ ts ∧ b ≠ s0.heap.objs.size := fun b o y => ⟨fun w => absurd (Heap.lt_size y) (Nat.not_lt.mpr (Nat.le_of_lt (gr.above b w))), Nat.ne_of_lt (Heap.lt_size y)⟩
  have keep : Evl.Ex H0 (LiI.putT (L2.upd H0 s0.heap.objs.size (.lst (ts.map V.ref))) ts q) := fun b u y => by
    refine (out b (fun w => ?_) (fun w => ?_)).trans y
    · rw [fr b w] at y; cases y
    · rw [w, frL] at y; cases y
  have eL : LiI.putT (L2.upd H0 s0.heap.objs.size (.lst (ts.map V.ref))) ts q s0.heap.objs.size = some (.lst (ts.map V.ref)) := (LiI.putT_off ts q _ nIn).trans upd_same
  refine ⟨⟨keep, fun a n => putT_nf ts q (n.upd (fun _ _ w => nomatch w))⟩, frL, eL, at2, ?_⟩
  refine Iv.call' (ch := []) rfl ⟨fun b o y _ _ _ => kp b o y, fun b o y _ _ _ => ⟨o.slots, kp b o y⟩, fun b o y n _ => ?_, fun b o y _ => ⟨o, kp b o y⟩, fun b xs y => keep b _ y, fun b o u y => keep b _ y, fun b ps y => ⟨#[], by rw [keep b _ y]; simp⟩⟩ (fun b u y => ?_) Iv.bare fun b w => by simp at w
  · obtain ⟨y1, y2⟩ := old b o y
    exact (out b y1 y2).trans n
  · by_cases hb : b ∈ ts
    · obtain ⟨j, pk, e1, e2, e3⟩ := LiI.paired_ix at2 hb
      cases e3.symm.trans y
      obtain ⟨key, k, x, f1, f2, f3⟩ := gr.pairs j b e1
      obtain ⟨qv, g1, g2, g3⟩ := LiI.paired_get rel e2
      cases f1.symm.trans g1
      have rk : RelV (kV pk.1) key := g2 ▸ relV_key f2
      exact ⟨(by decide : 2 ≤ sizeLine), [key, x], .cons rk (.cons g3 .nil), ⟨_, f3, rfl, _, rfl⟩⟩
    · by_cases hc : b = s0.heap.objs.size
      · subst hc
        cases eL.symm.trans y
        refine ⟨by simp; omega, acc.toList, cp, ea ▸ LiI.vals_refs ts, ?_⟩
        rw [Array.toArray_toList]; exact hL
      · rw [out b hb hc] at y
        exact (Iv.hok b u y).stay (fun d v _ w => kp d v w) (fun d w => keep d _ w) fun d xs w => keep d _ w
def pairMs : List (Key × M) → Option (List I)
  | [] => some []
  | (g, .im v) :: r => (pairMs r).map (.tup [kI g, v] :: ·)
  | _ :: _ => none
def itemsL : M → R M
  | .dic l => match pairMs l with
    | some k => .ok (.lst (k.map .im))
    | none => .no
  | _ => .no
theorem pairMs_is {K : PySem.W.Frag} {H H' : Hp} (ex : Ex H H') : ∀ {l : List (Key × M)} {kvs : List (Key × V)} {S : List Addr} {k : List I} {ts : List Addr}, pairMs l = some k → kvs.map (·.1) = l.map (·.1) → IsMs K H (kvs.map (·.2)) (l.map (·.2)) S →
    Paired (fun (t : Addr) (q : Key × V) => H' t = some (.tup [kV q.1, q.2])) ts kvs → IsIs K H' (ts.map V.ref) k
  | [], [], _, k, ts, h, _, _, pr => by
    cases h
    cases pr
    exact .nil
  | [], _ :: _, _, _, _, _, h, _, _ => by simp at h
  | _ :: _, [], _, _, _, _, h, _, _ => by simp at h
  | (g, m) :: l, (g', v) :: kvs, S, k, ts, h, h0, is, pr => by
    simp only [List.map_cons, List.cons.injEq] at h0
    obtain ⟨rfl, h0⟩ := h0
    have is : IsMs K H (v :: kvs.map (·.2)) (m :: l.map (·.2)) S := is
    cases is with
    | cons i1 i2 =>
      cases m with
      | im x =>
        have h : (pairMs l).map (I.tup [kI g', x] :: ·) = some k := h
        cases q : pairMs l with
        | none => rw [q] at h; cases h
        | some k' =>
          rw [q] at h
          cases h
          cases pr with
          | cons p1 p2 => exact .cons (.tup (.of p1) (.cons (kI_is g') (.cons (i1.im_nil.2.keep (Ex.tk ex)) .nil))) (pairMs_is ex q h0 i2 p2)
      | _ => cases h
theorem pd_listItems (hc : X.calm = true) (he : PE X e (tD X.K U fa)) (hg : Gl X "list") (hm : X.mg "list" = none) (hv : bootBuiltins "list" = some (.type "list")) (hbase : attributeBase e "items" X.env (eval e X.env) = eval e X.env := by rfl) (hline : (apos.endLine == cpos.line) = true := by rfl)
    (hst : starEach [.Call (.Attribute e "items" apos) [] [] cpos] X.env = (false, eval (.Call (.Attribute e "items" apos) [] [] cpos) X.env) :: starEach [] X.env := by rfl) :
    PE X (.Call (.Name "list" p2) [.Call (.Attribute e "items" apos) [] [] cpos] [] pos) (tD X.K [] fun ρ => fa ρ >>= itemsL) := ⟨fun pins s σ H Q Iv h => by
  obtain ⟨ρ, S, m, sl, hm2, k⟩ := h
  obtain ⟨x, h1, h2⟩ := R.bind_ok hm2
  unfold itemsL at h2
  split at h2
  · rename_i l
    split at h2
    · rename_i k' hk
      cases h2
      refine wpAny_Call_Name_kw (ld_blt Iv hg hm hv (PyProof.Rows.callWith_type1 ?_ hst rfl))
      rw [hst]
      show wpAny _ _ (spliced ((false, eval (.Call (.Attribute e "items" apos) [] [] cpos) X.env) :: backTo pos (starEach [] X.env))) _ _ s
      refine Calls.spliced_cons (wpAny_Call_method (T := "dict") (id := "dict.items") hbase rfl hline F.plainAttrs_dict F.slot_dict_items F.type_dict_items
        (thn (he.run pins s σ H (fun v H1 => ∃ d kvs T, v = .ref d ∧ Rd H1 d (.dK kvs) ∧ kvs.map (·.1) = l.map (·.1) ∧ IsMs X.K H1 (kvs.map (·.2)) (l.map (·.2)) T ∧ Ex H H1) Iv ⟨ρ, S, _, sl, h1, fun v H1 T e1 is1 f1 => ?_⟩) fun u s1 ⟨x, H1, I1, rx, d, kvs, T, ex, hd, g2, g4, e1⟩ => ?_))
      · obtain ⟨a, kvs, T, rfl, g1, g2, g3, g4, _⟩ := is1.dic'
        exact ⟨a, kvs, T, rfl, g1, g2, g4, e1⟩
      · subst ex
        obtain rfl : u = Value.ref d := rx
        obtain ⟨z, md, r, rel, dd⟩ := dk_rd I1.hok hd
        obtain ⟨ep, hat⟩ := dd.dictAt
        have lq : kvs.length = r.length := Paired.length rel
        have I2 : Inv X pins σ H1 { s1 with heap := s1.heap.push { cls := .type "dict_items", data := .fields #[.ref d] } } := I1.kept (t' := s1.toks) fun b ob y => Heap.get?_push_of_some _ y
        refine ⟨dd.typeIs, dd.mapOf.noDict, ?_⟩
        refine method_meetsIn F.slot_dict_items F.entry_dict_items rfl (PySem.evalArgs_none ⟨rfl, dd.typeIs, F.args_dict_items_1 _, _, meets_dict_items (mixKind X.prog X.w) d md, ⟨r, dd⟩, Calls.spliced_nil ?_⟩)
        refine PySem.W.kdx_call (knd := mixKind X.prog X.w) (kvs := r) (ep := ep) (I1.ok.hd hc) ⟨_, Heap.get?_push_size _ rfl, rfl, rfl⟩ (hat.push _) (lq ▸ z) fun hp tk acc cp ts c1 c2 c3 c4 c5 => ?_
        obtain ⟨b1, b2, b3, b4, b5⟩ := laid_items (tk := tk) I2 z rel c1 c2 c3 c4 c5
        exact ⟨.ref _, _, b5, rfl, k _ _ [_] (e1.trans b1) (.lst b3 (IsMs.ims (pairMs_is b1 hk g2 g4 b4))) ((new1 b2).back e1).fr⟩
    · cases h2
  · cases h2⟩

/-! ### methods of built-in things, by values -/
def rMD (K : PySem.W.Frag) (g : M → List M → R M) : V → List V → Hp → VK → Prop := fun x xs H Q => ∃ m S ms Ts r, IsM K H x m S ∧ Ars K H xs ms Ts ∧ g m ms = .ok r ∧ ∀ v H2 U, Ex H H2 → IsM K H2 v r U → New H U → Q v H2
theorem mt_of {id : String} {r0 : V → List V → Hp → VK → Prop} {g : M → List M → R M} (h0 : MtR X id r0) (h : ∀ x xs H Q, rMD X.K g x xs H Q → r0 x xs H Q) : MtR X id (rMD X.K g) := fun pins s σ H x xs v us Q I rx rs q => h0 pins s σ H x xs v us Q I rx rs (h x xs H Q q)
/-- a text's method -/
theorem pd_sm {id : String} {name : Str} {g : M → List M → R M} (slot : Slot "str" name id) (hty : typeOf (.builtin id) = pure (.type "method_descriptor")) (hm : MtR X id (rMD X.K g)) (hT : ∀ m ms r, g m ms = .ok r → ∃ z, m = mS z) (ho : PE X a (tD X.K Ua fa)) (ha : PA X (e :: es) (tDA X.K U G))
    (hbase : attributeBase a name X.env (eval a X.env) = eval a X.env := by rfl)
    (hfew : ((backTo cpos (starEach (e :: es) X.env)).all (fun x => !x.1) && (backToKw cpos (keywordEach [] X.env)).all (fun x => x.1.isSome)
      && decide ((e :: es).length + ([] : List Keyword).length + (if ([] : List Keyword).isEmpty then 0 else 1) < 30)) = true := by rfl)
    (hline : (apos.endLine == cpos.line) = true := by rfl) (hs : starEach (e :: es) X.env = (false, eval e X.env) :: starEach es X.env := by rfl) (hplain : (backTo cpos (starEach es X.env)).any (·.1) = false := by rfl) :
    PE X (.Call (.Attribute a name apos) (e :: es) [] cpos) (tD X.K [] fun ρ => fa ρ >>= fun m => G ρ >>= fun ms => g m ms) := (pe_bm F.plainAttrs_str slot hty hm ho ha hbase hfew hline hs hplain).imp fun σ H Q h => by
  obtain ⟨ρ, S, r, sl, hm, k⟩ := h
  obtain ⟨x, h1, h2⟩ := R.bind_ok hm
  obtain ⟨ms, h3, h4⟩ := R.bind_ok h2
  obtain ⟨z, rfl⟩ := hT _ _ _ h4
  refine ⟨ρ, S, _, sl, h1, fun v H1 T e1 is1 f1 => ?_⟩
  cases is1.str
  exact ⟨rfl, ρ, S, ms, sl.ex e1, h3, fun vs H2 Ts e2 ars _ => ⟨_, T, ms, Ts, r, is1.ex e2, ars, h4, fun v3 H3 U3 e3 is3 nw => k v3 H3 U3 ((e1.trans e2).trans e3) is3 (nw.back (e1.trans e2)).fr⟩⟩
theorem pd_sm0 {id : String} {name : Str} {g : M → List M → R M} (slot : Slot "str" name id) (hty : typeOf (.builtin id) = pure (.type "method_descriptor")) (hm : MtR X id (rMD X.K g)) (hT : ∀ m ms r, g m ms = .ok r → ∃ z, m = mS z) (ho : PE X a (tD X.K Ua fa))
    (hbase : attributeBase a name X.env (eval a X.env) = eval a X.env := by rfl) (hline : (apos.endLine == cpos.line) = true := by rfl) :
    PE X (.Call (.Attribute a name apos) [] [] cpos) (tD X.K [] fun ρ => fa ρ >>= fun m => g m []) := (pe_bm0 F.plainAttrs_str slot hty hm ho hbase hline).imp fun σ H Q h => by
  obtain ⟨ρ, S, r, sl, hm, k⟩ := h
  obtain ⟨x, h1, h4⟩ := R.bind_ok hm
  obtain ⟨z, rfl⟩ := hT _ _ _ h4
  refine ⟨ρ, S, _, sl, h1, fun v H1 T e1 is1 f1 => ?_⟩
  cases is1.str
  exact ⟨rfl, _, T, [], [], r, is1, .nil, h4, fun v3 H3 U3 e3 is3 nw => k v3 H3 U3 (e1.trans e3) is3 (nw.back e1).fr⟩
def findM : M → List M → R M
  | .im (.str a), [.im (.str b)] => .ok (mI (Txt.find a b))
  | .im (.str a), [.im (.str b), .im (.int i)] => .ok (mI (Txt.find3 a b i))
  | .im (.str a), [.im (.str b), .im (.int i), .im (.int j)] => .ok (mI (Txt.findIn a b i j))
  | _, _ => .no
theorem findM_t (m : M) (ms : List M) (r : M) (h : findM m ms = .ok r) : ∃ z, m = mS z := by
  unfold findM at h
  split at h <;> first | exact ⟨_, rfl⟩ | cases h
theorem t_find : MtR X "str.find" (rMD X.K findM) := mt_of (mt_find.or (mt_find3.or mt_find4)) fun x xs H Q q => by
  obtain ⟨m, S, ms, Ts, r, h1, h2, h3, k⟩ := q
  unfold findM at h3
  split at h3
  · rename_i z y
    cases h3
    obtain ⟨v, S', rfl, is, _⟩ := h2.one
    exact .inl ⟨z, y, h1.str, by rw [is.str], k _ H [] (Ex.refl H) (.im .int) .nil⟩
  · rename_i z y i
    cases h3
    obtain ⟨v, S', w, T', rfl, is, _, is2, _⟩ := h2.two
    exact .inr (.inl ⟨z, y, i, h1.str, by rw [is.str, is2.int], k _ H [] (Ex.refl H) (.im .int) .nil⟩)
  · rename_i z y i j
    cases h3
    obtain ⟨v, S', w, T', u, U', rfl, is, is2, is3⟩ := h2.three
    exact .inr (.inr ⟨z, y, i, j, h1.str, by rw [is.str, is2.int, is3.int], k _ H [] (Ex.refl H) (.im .int) .nil⟩)
  · cases h3
def splitM : M → List M → R M
  | .im (.str a), [.im (.str b)] => if (b.length == 0) = false ∧ a.length + 2 ≤ sizeLine then .ok (.lst ((Txt.split a b).map mS)) else .no
  | _, _ => .no
theorem splitM_t (m : M) (ms : List M) (r : M) (h : splitM m ms = .ok r) : ∃ z, m = mS z := by
  unfold splitM at h
  split at h <;> first | exact ⟨_, rfl⟩ | cases h
theorem t_split : MtR X "str.split" (rMD X.K splitM) := mt_of mt_split fun x xs H Q q => by
  obtain ⟨m, S, ms, Ts, r, h1, h2, h3, k⟩ := q
  unfold splitM at h3
  split at h3
  · rename_i z y
    split at h3
    · rename_i hl
      cases h3
      obtain ⟨v, S', rfl, is, _⟩ := h2.one
      exact ⟨z, y, h1.str, by rw [is.str], hl.1, hl.2, fun p hp => k _ _ [p] (Ex.new hp) (lst_strs _ hp) (new1 hp)⟩
    · cases h3
  · cases h3
def s0M (f : Str → I) : M → List M → R M
  | .im (.str a), [] => .ok (.im (f a))
  | _, _ => .no
theorem s0M_t {f : Str → I} (m : M) (ms : List M) (r : M) (h : s0M f m ms = .ok r) : ∃ z, m = mS z := by
  unfold s0M at h
  split at h <;> first | exact ⟨_, rfl⟩ | cases h
theorem t_s0B {id : String} {f : Str → Bool} (h0 : MtR X id (fun x xs H Q => ∃ a, x = .str a ∧ xs = [] ∧ True ∧ Q (.bl (f a)) H)) : MtR X id (rMD X.K (s0M fun a => .bl (f a))) := mt_of h0 fun x xs H Q q => by
  obtain ⟨m, S, ms, Ts, r, h1, h2, h3, k⟩ := q
  unfold s0M at h3
  split at h3
  · rename_i z
    cases h3
    cases h2
    exact ⟨z, h1.str, rfl, trivial, k _ H [] (Ex.refl H) (.im .bl) .nil⟩
  · cases h3
abbrev isdigitM : M → List M → R M := s0M fun a => .bl (Txt.isdigit a)
theorem t_isdigit : MtR X "str.isdigit" (rMD X.K isdigitM) := t_s0B mt_isdigit
def s1M (f : Str → Str → I) : M → List M → R M
  | .im (.str a), [.im (.str b)] => .ok (.im (f a b))
  | _, _ => .no
theorem s1M_t {f : Str → Str → I} (m : M) (ms : List M) (r : M) (h : s1M f m ms = .ok r) : ∃ z, m = mS z := by
  unfold s1M at h
  split at h <;> first | exact ⟨_, rfl⟩ | cases h
theorem t_s1B {id : String} {f : Str → Str → Bool} (h0 : MtR X id (fun x xs H Q => ∃ a b, x = .str a ∧ xs = [.str b] ∧ Q (.bl (f a b)) H)) : MtR X id (rMD X.K (s1M fun a b => .bl (f a b))) := mt_of h0 fun x xs H Q q => by
  obtain ⟨m, S, ms, Ts, r, h1, h2, h3, k⟩ := q
  unfold s1M at h3
  split at h3
  · rename_i z y
    cases h3
    obtain ⟨v, S', rfl, is, _⟩ := h2.one
    exact ⟨z, y, h1.str, by rw [is.str], k _ H [] (Ex.refl H) (.im .bl) .nil⟩
  · cases h3
abbrev startsM : M → List M → R M := s1M fun a b => .bl (Txt.startswith a b)
abbrev endsM : M → List M → R M := s1M fun a b => .bl (Txt.endswith a b)
theorem t_starts : MtR X "str.startswith" (rMD X.K startsM) := t_s1B mt_startswith
theorem t_ends : MtR X "str.endswith" (rMD X.K endsM) := t_s1B mt_endswith
def textsM : M → Option (List Str)
  | .lst l => allStr l
  | .im (.tup l) => allStr (l.map .im)
  | _ => none
def joinM : M → List M → R M
  | .im (.str a), [m] => match textsM m with
    | some ys => if (ys.map (·.length)).sum + ys.length * a.length ≤ 16777216 then .ok (mS (Txt.join a ys)) else .no
    | none => .no
  | _, _ => .no
theorem joinM_t (m : M) (ms : List M) (r : M) (h : joinM m ms = .ok r) : ∃ z, m = mS z := by
  unfold joinM at h
  split at h <;> first | exact ⟨_, rfl⟩ | cases h
theorem t_join : MtR X "str.join" (rMD X.K joinM) := mt_of mt_join fun x xs H Q q => by
  obtain ⟨m, S, ms, Ts, r, h1, h2, h3, k⟩ := q
  unfold joinM at h3
  split at h3
  · rename_i z y
    split at h3
    · rename_i ys hy
      split at h3
      · rename_i hl
        cases h3
        obtain ⟨v, S', rfl, is, _⟩ := h2.one
        have k' := k _ H [] (Ex.refl H) (.im .str) .nil
        unfold textsM at hy
        split at hy
        · obtain ⟨p, vs, T, rfl, s1, i1, _⟩ := is.lst'
          obtain ⟨_, rfl⟩ := allStr_is hy i1
          exact ⟨z, p, ys, h1.str, rfl, .inl (.of s1), hl, k'⟩
        · obtain ⟨p, vs, rfl, s1, i1⟩ := is.tup
          obtain ⟨_, rfl⟩ := allStr_is hy (IsMs.ims i1)
          exact ⟨z, p, ys, h1.str, rfl, .inr s1, hl, k'⟩
        · cases hy
      · cases h3
    · cases h3
  · cases h3

/-! ### f-strings -/
def fmtM : M → R M
  | .im (.str y) => if y.length ≤ sizeLine then .ok (mS y) else .no
  | .im (.int i) => if i.natAbs.log2 < 1920 then .ok (mS (toString i)) else .no
  | _ => .no
theorem pd_fmt (ha : PE X a (tD X.K Ua fa)) : PE X (.FormattedValue a (-1) none pos) (tD X.K [] fun ρ => fa ρ >>= fmtM) := (pe_fmt ha).imp fun σ H Q h => by
  obtain ⟨ρ, S, r, sl, hm, k⟩ := h
  obtain ⟨x, h1, h2⟩ := R.bind_ok hm
  refine ⟨ρ, S, x, sl, h1, fun v H1 T e1 is1 f1 => ?_⟩
  unfold fmtM at h2
  split at h2
  · rename_i y
    split at h2
    · rename_i hy
      cases h2
      exact .inl ⟨y, is1.str, hy, k _ H1 [] e1 (.im .str) Fr.nil⟩
    · cases h2
  · rename_i y
    split at h2
    · rename_i hy
      cases h2
      exact .inr ⟨y, is1.int, hy, k _ H1 [] e1 (.im .str) Fr.nil⟩
    · cases h2
  · cases h2
/-- the parts of an f-string -/
inductive PJD (X : Cx) : List Expr → List (Env → R M) → Prop where
  | nil : PJD X [] []
  | cons {e : Expr} {U : List Nat} {f : Env → R M} {es : List Expr} {fs : List (Env → R M)} (h : PE X e (tD X.K U f)) (r : PJD X es fs) : PJD X (e :: es) (f :: fs)
def strR : M → R Str
  | .im (.str x) => .ok x
  | _ => .no
def joinedR : List (Env → R M) → Str → Env → R Str
  | [], acc, _ => .ok acc
  | f :: fs, acc, ρ => f ρ >>= fun m => strR m >>= fun y => if (acc ++ y).length ≤ sizeLine then joinedR fs (acc ++ y) ρ else .no
theorem joined_run {K : PySem.W.Frag} {σ : L2.St} {ρ : Env} {S : Nat → List Addr} {Q : Str → Hp → Prop} : ∀ {fs : List (Env → R M)} {Us : List (List Nat)} {acc out : Str} {H : Hp}, Us.length = fs.length → Slots K H σ ρ S → joinedR fs acc ρ = .ok out → (∀ H2, Ex H H2 → Q out H2) →
    tJs ((Us.zip fs).map fun uf => tD K uf.1 uf.2) acc σ H Q
  | [], [], acc, out, H, _, sl, h, k => by
    cases h
    exact k H (Ex.refl H)
  | [], _ :: _, _, _, _, hl, _, _, _ => by simp at hl
  | _ :: _, [], _, _, _, hl, _, _, _ => by simp at hl
  | f :: fs, U :: Us, acc, out, H, hl, sl, h, k => by
    obtain ⟨m, h1, h2⟩ := R.bind_ok (show (f ρ >>= fun m => strR m >>= fun y => if (acc ++ y).length ≤ sizeLine then joinedR fs (acc ++ y) ρ else .no) = .ok out from h)
    obtain ⟨y, h3, h4⟩ := R.bind_ok h2
    split at h4
    · rename_i hz
      refine ⟨ρ, S, m, sl, h1, fun v H1 T e1 is1 _ => ⟨y, ?_, hz, joined_run (by simpa using hl) (sl.ex e1) h4 fun H2 e2 => k H2 (e1.trans e2)⟩⟩
      cases m with
      | im i =>
        cases i with
        | str z =>
          cases h3
          exact is1.str
        | _ => cases h3
      | _ => cases h3
    · cases h4
theorem PJD.pj {es : List Expr} {fs : List (Env → R M)} (h : PJD X es fs) : ∃ Us : List (List Nat), Us.length = fs.length ∧ PJ X es ((Us.zip fs).map fun uf => tD X.K uf.1 uf.2) := by
  induction h with
  | nil => exact ⟨[], rfl, .nil⟩
  | @cons e U f es fs h r ih =>
    obtain ⟨Us, hl, hp⟩ := ih
    exact ⟨U :: Us, by simp [hl], .cons h hp⟩
theorem pd_joined {v1 v2 : Expr} {rest : List Expr} {fs : List (Env → R M)} (h : PJD X (v1 :: v2 :: rest) fs) : PE X (.JoinedStr (v1 :: v2 :: rest) pos) (tD X.K [] fun ρ => joinedR fs Str.empty ρ >>= fun y => .ok (mS y)) := by
  obtain ⟨Us, hl, hp⟩ := h.pj
  refine (pe_joined hp).imp fun σ H Q q => ?_
  obtain ⟨ρ, S, r, sl, hm, k⟩ := q
  obtain ⟨y, h1, h2⟩ := R.bind_ok hm
  cases h2
  exact joined_run hl sl h1 fun H2 e2 => k _ H2 [] e2 (.im .str) Fr.nil
end
end DL
/-! DL17: enumerate over lists, tuples, texts. -/
namespace DL
open PySem PySem.Spec PyProof.Rows L2

/-- what an iterator is made of -/
inductive Src where
  | lst (a : Addr) | tup (a : Addr) | txt (z : Str) (t : Tok)
/-- its i-th thing as it stands -/
def Src.at_ (K : PySem.W.Frag) (H : Hp) : Src → Nat → V → Prop
  | .lst a, i, x => ∃ xs, SqL K H a xs ∧ xs[i]? = some x
  | .tup a, i, x => ∃ xs, SqT K H a xs ∧ xs[i]? = some x
  | .txt z _, i, x => ∃ c, z.cps[i]? = some c ∧ x = .str ⟨#[c]⟩
/-- .. however it is read -/
def Src.got (K : PySem.W.Frag) (H : Hp) : Src → Nat → V → Prop
  | .lst a, i, x => ∀ xs, SqL K H a xs → xs[i]? = some x
  | .tup a, i, x => ∀ xs, SqT K H a xs → xs[i]? = some x
  | .txt z _, i, x => ∃ c, z.cps[i]? = some c ∧ x = .str ⟨#[c]⟩
theorem Src.at_got {X : Cx} {pins : List (Addr × Obj)} {σ : L2.St} {H : Hp} {s0 : Shared} (Iv : Inv X pins σ H s0) {s : Src} {i : Nat} {x : V} (h : s.at_ X.K H i x) : s.got X.K H i x := by
  cases s with
  | lst a =>
    obtain ⟨xs, h1, h2⟩ := h
    exact fun ys hy => by rw [Iv.list_inj hy h1]; exact h2
  | tup a =>
    obtain ⟨xs, h1, h2⟩ := h
    exact fun ys hy => by rw [Iv.tuple_inj hy h1]; exact h2
  | txt z t => exact h
def Src.ends (K : PySem.W.Frag) (H : Hp) : Src → Nat → Prop
  | .lst a, i => ∃ xs, SqL K H a xs ∧ xs.length = i
  | .tup a, i => ∃ xs, SqT K H a xs ∧ xs.length = i
  | .txt z _, i => z.cps.size = i
/-- its iterator's state -/
def Src.st (it : Addr) : Src → Nat → Heap → Prop
  | .lst a, i, h => h.IsListIter it a i
  | .tup a, i, h => h.IsTupleIter it a i
  | .txt z t, i, h => h.IsStrIter it (strIterType z) z t i
theorem Src.rec_ {s : Src} {it : Addr} {i : Nat} {h : Heap} (x : s.st it i h) : ∃ o, h.get? it = some o ∧ (∀ v, o.data ≠ .cell v) ∧ o.cls ≠ .type "list" ∧ o.cls ≠ .type "tuple" ∧ o.cls ≠ .type "enumerate" := by
  cases s with
  | lst a =>
    obtain ⟨o, e, c, d⟩ := x
    exact ⟨o, e, fun v q => (by rw [d] at q; cases q), by rw [c]; decide, by rw [c]; decide, by rw [c]; decide⟩
  | tup a =>
    obtain ⟨o, e, c, d⟩ := x
    exact ⟨o, e, fun v q => (by rw [d] at q; cases q), by rw [c]; decide, by rw [c]; decide, by rw [c]; decide⟩
  | txt z t =>
    obtain ⟨o, e, c, d⟩ := x
    unfold strIterType at c
    refine ⟨o, e, fun v q => (by rw [d] at q; cases q), ?_, ?_, ?_⟩ <;> (rw [c]; split <;> decide)
theorem Src.keep {s : Src} {it : Addr} {i : Nat} {h h' : Heap} (x : s.st it i h) (k : ∀ o, h.get? it = some o → h'.get? it = some o) : s.st it i h' := by
  cases s with
  | lst a => exact x.at k
  | tup a => exact x.at k
  | txt z t =>
    obtain ⟨o, e, r⟩ := x
    exact ⟨o, k o e, r⟩
/-- what it draws, at one turn -/
theorem Src.draws {X : Cx} {pins : List (Addr × Obj)} {σ : L2.St} {H : Hp} {s0 : Shared} (Iv : Inv X pins σ H s0) {A : Around} (hh : A.handled = none) {s : Src} {it : Addr} {i : Nat} (x : s.st it i s0.heap) (e : Addr) (he : ∃ o, s0.heap.get? e = some o ∧ o.cls = .type "enumerate") :
    (∀ v, s.at_ X.K H i v → ∃ fp n P St, Draws X.prog X.w A it fp n P St ∧ i < n ∧ St i s0.heap ∧ (∀ h, St (i + 1) h → s.st it (i + 1) h) ∧ (∀ u, P i u → RelV v u) ∧ it ∈ fp ∧ e ∉ fp) ∧
    (s.ends X.K H i → ∃ fp P St, Draws X.prog X.w A it fp i P St ∧ St i s0.heap ∧ it ∈ fp ∧ e ∉ fp) := by
  obtain ⟨oi, hi, _, n1, n2, n3⟩ := Src.rec_ x
  obtain ⟨oe, he, ce⟩ := he
  have nei : e ≠ it := fun q => by
    subst q
    rw [he] at hi
    cases hi
    exact n3 ce
  cases s with
  | lst a =>
    have nL : ∀ its : Array Value, s0.heap.IsList a its → a ≠ it ∧ e ≠ a := fun its hl => by
      obtain ⟨o, h1, h2, _⟩ := hl
      refine ⟨fun q => ?_, fun q => ?_⟩
      · subst q
        rw [h1] at hi
        cases hi
        exact n1 h2
      · subst q
        rw [h1] at he
        cases he
        rw [h2] at ce
        exact absurd ce (by decide)
    refine ⟨fun v hv => ?_, fun hv => ?_⟩
    · obtain ⟨xs, hq, hx⟩ := hv
      obtain ⟨its, rv, p, _⟩ := Iv.list hq
      obtain ⟨u, hu, ru⟩ := rv.get hx
      obtain ⟨d1, d2⟩ := nL _ p.isList
      refine ⟨_, _, _, _, Draws.list hh it a d1 its.toArray, ?_, ⟨x, p.isList⟩, fun h q => q.1, fun u' hu' => ?_, by simp, by simp; exact ⟨nei, d2⟩⟩
      · have := (List.getElem?_eq_some_iff.mp hu).1
        simpa using this
      · have hu' : its.toArray[i]? = some u' := hu'
        rw [List.getElem?_toArray, hu] at hu'
        cases hu'
        exact ru
    · obtain ⟨xs, hq, hx⟩ := hv
      obtain ⟨its, rv, p, _⟩ := Iv.list hq
      obtain ⟨d1, d2⟩ := nL _ p.isList
      have hl : its.toArray.size = i := by rw [List.size_toArray, ← rv.length]; exact hx
      refine ⟨_, _, _, hl ▸ Draws.list hh it a d1 its.toArray, ⟨x, p.isList⟩, by simp, by simp; exact ⟨nei, d2⟩⟩
  | tup a =>
    have nL : ∀ its : Array Value, s0.heap.IsTuple a its → a ≠ it ∧ e ≠ a := fun its hl => by
      obtain ⟨o, h1, h2, _⟩ := hl
      refine ⟨fun q => ?_, fun q => ?_⟩
      · subst q
        rw [h1] at hi
        cases hi
        exact n2 h2
      · subst q
        rw [h1] at he
        cases he
        rw [h2] at ce
        exact absurd ce (by decide)
    refine ⟨fun v hv => ?_, fun hv => ?_⟩
    · obtain ⟨xs, hq, hx⟩ := hv
      obtain ⟨its, rv, p, _⟩ := Iv.tuple hq
      obtain ⟨u, hu, ru⟩ := rv.get hx
      obtain ⟨d1, d2⟩ := nL _ p
      refine ⟨_, _, _, _, Draws.tuple hh it a d1 its.toArray, ?_, ⟨x, p⟩, fun h q => q.1, fun u' hu' => ?_, by simp, by simp; exact ⟨nei, d2⟩⟩
      · have := (List.getElem?_eq_some_iff.mp hu).1
        simpa using this
      · have hu' : its.toArray[i]? = some u' := hu'
        rw [List.getElem?_toArray, hu] at hu'
        cases hu'
        exact ru
    · obtain ⟨xs, hq, hx⟩ := hv
      obtain ⟨its, rv, p, _⟩ := Iv.tuple hq
      obtain ⟨d1, d2⟩ := nL _ p
      have hl : its.toArray.size = i := by rw [List.size_toArray, ← rv.length]; exact hx
      refine ⟨_, _, _, hl ▸ Draws.tuple hh it a d1 its.toArray, ⟨x, p⟩, by simp, by simp; exact ⟨nei, d2⟩⟩
  | txt z t =>
    refine ⟨fun v hv => ?_, fun hv => ?_⟩
    · obtain ⟨c, hc, rfl⟩ := hv
      refine ⟨_, _, _, _, Draws.text hh it z t, (Array.getElem?_eq_some_iff.mp hc).1, x, fun h q => q, fun u hu => ?_, by simp, by simp; exact nei⟩
      obtain ⟨c', tk, h1, rfl⟩ := hu
      rw [hc] at h1
      cases h1
      exact ⟨tk, rfl⟩
    · have hv : z.cps.size = i := hv
      exact ⟨_, _, _, hv ▸ Draws.text hh it z t, x, by simp, by simp; exact nei⟩

/-- k, k + 1, .. with the things of s: each turn a new pair -/
def Itn (K : PySem.W.Frag) (s : Src) (k : Int) : It :=
  ⟨fun i H => ∃ x, s.at_ K H i x, fun i H v H' => ∃ T x, v = .ref T ∧ H T = none ∧ H' = L2.upd H T (.tup [.int (k + (i : Int)), x]) ∧ s.got K H i x, fun i H => s.ends K H i⟩
theorem turn_en {P : Program} {w : World} {K : PySem.W.Frag} {elts : List Expr} {kk : Nat} {tpos : Pos} (s : Src) (k : Int) (e it : Addr) : Turn P w K (.Tuple elts kk tpos) (Itn K s k) [e, it] e (fun i h => (∃ old, IsEnum h e it (k + (i : Int)) old) ∧ s.st it i h ∧ e ≠ it) where
  mem := by simp
  obj := fun i h st b hb => by
    obtain ⟨⟨old, he⟩, hs, _⟩ := st
    rcases List.mem_cons.mp hb with rfl | hb
    · exact ⟨_, he, fun v q => nomatch q⟩
    · rw [List.mem_singleton.mp hb]
      obtain ⟨o, h1, h2, _⟩ := Src.rec_ hs
      exact ⟨o, h1, h2⟩
  keep := fun i h h' st kp => by
    obtain ⟨⟨old, he⟩, hs, ne⟩ := st
    exact ⟨⟨old, kp e (by simp) _ he⟩, Src.keep hs fun o q => kp it (by simp) o q, ne⟩
  item := by
    intro X hP hw hK hc i pins s0 σ H E Iv hf st hg
    subst hP hw hK
    obtain ⟨⟨old, he⟩, hs, ne⟩ := st
    obtain ⟨x, hx⟩ := hg
    obtain ⟨fp, n, Pd, St, D, hin, hSt, hS2, hP, hm, hne⟩ := (Src.draws Iv (A := X.A.in1) (Iv.ok.hd hc) hs e ⟨_, he, rfl⟩).1 x hx
    have W := WalksT.enumFrom (A := X.A) k D e ne hne hm
    refine W.item i s0 _ E hin ⟨⟨old, he⟩, hSt⟩ fun T vals h' tk pt hT hTup mid kp => ⟨_, rfl, W.go elts kk tpos i T { s0 with heap := h', toks := tk } _ E mid fun h2 st2 kp2 => ?_⟩
    obtain ⟨t, u, hPu, rfl⟩ := pt
    have ap := W.apart _ _ _ mid
    obtain ⟨o, o1, o2, o3⟩ := hTup
    have new : ObjOk X.prog X.w (L2.upd H T (.tup [.int (k + (i : Int)), x])) h2 T (.tup [.int (k + (i : Int)), x]) := ⟨(by decide : 2 ≤ sizeLine), [.int (k + (i : Int)) t, u], .cons ⟨_, rfl⟩ (.cons (hP u hPu) .nil), ⟨o, kp2 T o ap o1, o2, o3⟩⟩
    refine ⟨.ref T, _, Iv.turnedNew (t' := tk) (ch := [e, it]) (fun b o hb q => kp2 b o hb (kp b o hb q)) hf hT new, rfl, ⟨T, x, rfl, Iv.hok.fresh hT, rfl, Src.at_got Iv hx⟩, ⟨?_, hS2 _ st2.2, ne⟩, fun b hb => ?_⟩
    · exact st2.1
    · rw [upd_ne (show b ≠ T from fun q => ap (q ▸ hb))]
      exact (hf b hb).1
  done := by
    intro X hP hw hK hc i pins s0 σ H E Iv hf st hg
    subst hP hw hK
    obtain ⟨⟨old, he⟩, hs, ne⟩ := st
    obtain ⟨fp, Pd, St, D, hSt, hm, hne⟩ := (Src.draws Iv (A := X.A.in1) (Iv.ok.hd hc) hs e ⟨_, he, rfl⟩).2 hg
    have W := WalksT.enumFrom (A := X.A) k D e ne hne hm
    exact W.done s0 _ E ⟨⟨old, he⟩, hSt⟩ fun h' tk kp => ⟨rfl, Iv.turnedL (t' := tk) (ch := [e, it]) kp hf⟩
  self := fun A i s0 Q E st h => by
    obtain ⟨⟨old, he⟩, _⟩ := st
    exact wpAny_pyIter_enum he h
def pairM (k : Int) : M → M
  | .im v => mT [.int k, v]
  | m => .tpm [mI k, m]
theorem pairM_is {K : PySem.W.Frag} {H : Hp} {T : Addr} {k : Int} {x : V} {m : M} {S : List Addr} (is : IsM K H x m S) (hT : H T = none) : IsM K (L2.upd H T (.tup [.int k, x])) (.ref T) (pairM k m) S := by
  have is' := is.ex (Ex.new (o := .tup [.int k, x]) hT)
  by_cases h : ∃ v, m = .im v
  · obtain ⟨v, rfl⟩ := h
    obtain ⟨rfl, i1⟩ := is'.im_nil
    exact .im (.tup (.of upd_same) (.cons .int (.cons i1 .nil)))
  · have e : pairM k m = .tpm [mI k, m] := by
      cases m with
      | im v => exact absurd ⟨v, rfl⟩ h
      | _ => rfl
    rw [e]
    refine .tpm (.of upd_same) ?_
    have := IsMs.cons (.im (.int (i := k))) (IsMs.cons is' .nil)
    simpa using this
def enumFrom (k : Int) : List M → List M
  | [] => []
  | m :: l => pairM k m :: enumFrom (k + 1) l
theorem enumFrom_get : ∀ (l : List M) (k : Int) (i : Nat), (enumFrom k l)[i]? = l[i]?.map (pairM (k + (i : Int)))
  | [], _, _ => by simp [enumFrom]
  | m :: l, k, 0 => by simp [enumFrom]
  | m :: l, k, i + 1 => by
    simp only [enumFrom, List.getElem?_cons_succ, enumFrom_get l (k + 1) i]
    congr 2
    omega
theorem enumFrom_length : ∀ (l : List M) (k : Int), (enumFrom k l).length = l.length
  | [], _ => rfl
  | m :: l, k => by simp [enumFrom, enumFrom_length l]
/-- the walk over the things of a value -/
theorem src_sq {K : PySem.W.Frag} {H1 : Hp} {v : V} {m : M} {T : List Addr} {ms : List M} (is : IsM K H1 v m T) (nd : T.Nodup) (h : itemsM m = .ok ms) {u : Value} (ru : RelV v u) :
    ∃ s : Src, (∀ k : Int, Sq K (Itn K s k) H1 T (enumFrom k ms)) ∧ ((∃ a, v = .ref a ∧ s = .lst a ∧ ∃ xs, SqL K H1 a xs) ∨ (∃ a, v = .ref a ∧ s = .tup a ∧ ∃ xs, SqT K H1 a xs) ∨ ∃ z t, v = .str z ∧ u = .str z t ∧ s = .txt z t) := by
  have gen : ∀ (s : Src) (vs : List V) (l : List M) (S : List Addr) (G : Hp → Prop), IsMs K H1 vs l S → S.Nodup → (∀ a ∈ S, a ∈ T) → ms = l → (∀ H, G H → ∀ i, i < vs.length → ∃ x, s.at_ K H i x) → (∀ H, G H → s.ends K H vs.length) → (∀ H i x, G H → s.got K H i x → vs[i]? = some x) →
      (∀ H', (∀ a ∈ T, ∀ o, H1 a = some o → H' a = some o) → TK H1 H' → G H') → ∀ k : Int, Sq K (Itn K s k) H1 T (enumFrom k ms) := fun s vs l S G r nS hS e1 g1 g2 g3 g4 k => by
    subst e1
    refine ⟨G, fun i H x H' => ∃ T' y, x = .ref T' ∧ H T' = none ∧ H' = L2.upd H T' (.tup [.int (k + (i : Int)), y]) ∧ vs[i]? = some y, ⟨fun i H hi q => ?_, fun H q => ?_, fun i H x H' _ q y => ?_⟩, g4, fun i H3 x H' _ kp t hy => ?_⟩
    · rw [enumFrom_length, ← r.length] at hi
      exact g1 H q i hi
    · rw [enumFrom_length, ← r.length]
      exact g2 H q
    · obtain ⟨T', y, a1, a2, a3, a4⟩ := y
      exact ⟨T', y, a1, a2, a3, g3 H i y q a4⟩
    · obtain ⟨T', y, rfl, a2, rfl, b2⟩ := hy
      obtain ⟨m', T2, h3, h4, h5, h6⟩ := (r.keep t fun a ha => kp a (hS a ha)).get' nS b2
      exact ⟨Ex.new a2, _, T2, by rw [enumFrom_get, h3]; rfl, pairM_is h4 a2, h5, fun a ha => hS a (h6 a ha)⟩
  have seqT : ∀ (a : Addr) (vs : List V) (l : List M), v = .ref a → SqT K H1 a vs → IsMs K H1 vs l T → ms = l → ∃ s : Src, (∀ k : Int, Sq K (Itn K s k) H1 T (enumFrom k ms)) ∧ ((∃ a, v = .ref a ∧ s = .lst a ∧ ∃ xs, SqL K H1 a xs) ∨ (∃ a, v = .ref a ∧ s = .tup a ∧ ∃ xs, SqT K H1 a xs) ∨ ∃ z t, v = .str z ∧ u = .str z t ∧ s = .txt z t) := fun a vs l e0 hq r e1 =>
    ⟨.tup a, gen (.tup a) vs l T (fun H => SqT K H a vs) r nd (fun _ z => z) e1 (fun H q i hi => ⟨vs[i], vs, q, by simp [hi]⟩) (fun H q => ⟨vs, q, rfl⟩) (fun H i x q g => g vs q) (fun H' kp tk => tk.sqT hq), .inr (.inl ⟨a, e0, rfl, vs, hq⟩)⟩
  cases is with
  | im is =>
    cases is with
    | tup hs r =>
      cases h
      exact seqT _ _ _ rfl hs (IsMs.ims r) rfl
    | str =>
      rename_i z
      cases h
      obtain ⟨t, rfl⟩ := ru
      refine ⟨.txt z t, gen (.txt z t) (z.cps.toList.map fun c => V.str ⟨#[c]⟩) _ [] (fun _ => True) ?_ List.nodup_nil (fun _ y => nomatch y) rfl (fun H _ i hi => ?_) (fun H _ => by simp [Src.ends]) (fun H i x _ g => ?_) (fun _ _ _ => trivial), .inr (.inr ⟨z, t, rfl, rfl, rfl⟩)⟩
      · have := IsMs.ims (strs_is (K := K) (H := H1) (z.cps.toList.map fun c => (⟨#[c]⟩ : Str)))
        simpa [List.map_map, Function.comp_def] using this
      · have hi : i < z.cps.size := by simpa using hi
        exact ⟨_, z.cps[i], by simp [hi], rfl⟩
      · obtain ⟨c, h1, rfl⟩ := g
        rw [List.getElem?_map, Array.getElem?_toList, h1]
        rfl
    | _ => cases h
  | lst hs r =>
    rename_i a vs l S'
    cases h
    exact ⟨.lst a, gen (.lst a) vs _ S' (fun H => SqL K H a vs) r (List.nodup_cons.mp nd).2 (fun _ z => List.mem_cons_of_mem _ z) rfl (fun H q i hi => ⟨vs[i], vs, q, by simp [hi]⟩) (fun H q => ⟨vs, q, rfl⟩) (fun H i x q g => g vs q) (fun H' kp tk => .of (kp a List.mem_cons_self _ hs)), .inl ⟨a, rfl, rfl, vs, .of hs⟩⟩
  | tpm hs r =>
    cases h
    exact seqT _ _ _ rfl hs r rfl
  | _ => cases h
section
variable {X : Cx} {a b : Expr} {U : List Nat} {f : Env → R M} {fk : Env → R M} {Uk : List Nat} {elts : List Expr} {kk : Nat} {tpos p pos : Pos}
theorem en_begin {pins : List (Addr × Obj)} {σ : L2.St} {H1 : Hp} {s1 : Shared} {v : V} {u : Value} {s : Src} {k : Int} {Rr : It → Hp → Prop} (I1 : Inv X pins σ H1 s1) (ru : RelV v u)
    (hs : (∃ a, v = .ref a ∧ s = .lst a ∧ ∃ xs, SqL X.K H1 a xs) ∨ (∃ a, v = .ref a ∧ s = .tup a ∧ ∃ xs, SqT X.K H1 a xs) ∨ ∃ z t, v = .str z ∧ u = .str z t ∧ s = .txt z t) (q : Rr (Itn X.K s k) H1)
    {h' : Heap} {tk : Nat} (he : IsEnum h' (s1.heap.objs.size + 1) s1.heap.objs.size k .none) (o : Obj) (ho : h'.get? s1.heap.objs.size = some o) (hk : ∀ b o, s1.heap.get? b = some o → h'.get? b = some o) (st0 : s.st s1.heap.objs.size 0 h') :
    wpAny (model X.prog X.w) X.A (pyIter (.ref (s1.heap.objs.size + 1))) (PIE X pins σ (.Tuple elts kk tpos) Rr) X.xe { s1 with heap := h', toks := tk } := by
  refine wpAny_pyIter_enum he ?_
  refine ⟨s1.heap.objs.size + 1, [s1.heap.objs.size + 1, s1.heap.objs.size], _, _, H1, rfl, I1.kept hk, turn_en s k (s1.heap.objs.size + 1) s1.heap.objs.size, ⟨⟨.none, by simpa using he⟩, st0, Nat.succ_ne_self _⟩, fun b hb => ?_, q⟩
  have hle : s1.heap.objs.size ≤ b := by
    have e' : b = s1.heap.objs.size + 1 ∨ b = s1.heap.objs.size := by simpa using hb
    rcases e' with z | z
    · rw [z]; exact Nat.le_succ _
    · rw [z]; exact Nat.le_refl _
  exact I1.fpOk hle (I1.hok.fresh hle)
/-- enumerate(x, k) -/
theorem pid_enum2 (hg : Gl X "enumerate") (hm : X.mg "enumerate" = none) (ha : PE X a (tD X.K U f)) (hb : PE X b (tD X.K Uk fk)) (hst : starEach [a, b] X.env = (false, eval a X.env) :: starEach [b] X.env := by rfl) (hpl : (backTo pos (starEach [b] X.env)).any (·.1) = false := by rfl) (hst2 : starEach [b] X.env = (false, eval b X.env) :: starEach [] X.env := by rfl) :
    PI X (.Tuple elts kk tpos) (.Call (.Name "enumerate" p) [a, b] [] pos) (tI X.K U fun ρ => f ρ >>= fun x => fk ρ >>= fun k => intR k >>= fun k => itemsM x >>= fun ms => if -(2 ^ 63) ≤ k ∧ k < 2 ^ 63 then .ok (enumFrom k ms) else .no) := ⟨fun pins s σ H Rr Iv h => by
  obtain ⟨ρ, S, ms, sl, hm2, k⟩ := h
  obtain ⟨x, h1, h2⟩ := R.bind_ok hm2
  obtain ⟨k0, h3, h4⟩ := R.bind_ok h2
  obtain ⟨k1, h5, h6⟩ := R.bind_ok h4
  obtain ⟨l, h7, h8⟩ := R.bind_ok h6
  obtain rfl := intR_is h5
  split at h8
  · rename_i hk
    cases h8
    refine Call_ (ld_blt Iv hg hm boot_enumerate (PyProof.Rows.callWith_type1 (thn ((pa_cons ha (pa_cons hb pa_nil hst2) hst).run pos pins s σ H (fun vs H2 => ∃ v T w, vs = [v, .int k1] ∧ Ex H H2 ∧ IsM X.K H2 v x T ∧ w = () ∧ Fr U S H T) Iv ⟨ρ, S, x, sl, h1, fun v H1 T e1 is1 f1 => ⟨ρ, S, _, sl.ex e1, h3, fun w H2 T2 e2 is2 _ =>
      ⟨v, T, (), by rw [is2.int], e1.trans e2, is1.ex e2, rfl, f1⟩⟩⟩) fun us s1 ⟨vs, H2, I2, rv, v, T, w, ev, ex, is, _, fr⟩ => ?_) hst hpl))
    subst ev
    obtain ⟨u, u2, rfl, ru, t2, rfl⟩ := vals2 rv
    obtain ⟨sr, sq, cs⟩ := src_sq is fr.nd h7 ru
    have q : Rr (Itn X.K sr k1) H2 := k _ H2 T ex (sq k1) fun a ha => ⟨is.there a ha, fr.fr a ha⟩
    rcases cs with ⟨a, rfl, rfl, xs, hq⟩ | ⟨a, rfl, rfl, xs, hq⟩ | ⟨z, t, rfl, rfl, rfl⟩
    · cases (show u = Value.ref a from ru)
      obtain ⟨its, _, p', _⟩ := I2.list hq
      exact enum_begins (begins_list a its.toArray) p'.isList hk.1 hk.2 fun h' he ho _ kp => en_begin (tk := s1.toks) I2 ru (.inl ⟨a, rfl, rfl, xs, hq⟩) q he _ ho kp ⟨_, ho, rfl, rfl⟩
    · cases (show u = Value.ref a from ru)
      obtain ⟨its, _, p', _⟩ := I2.tuple hq
      exact enum_begins (begins_tuple a its.toArray) p' hk.1 hk.2 fun h' he ho _ kp => en_begin (tk := s1.toks) I2 ru (.inr (.inl ⟨a, rfl, rfl, xs, hq⟩)) q he _ ho kp ⟨_, ho, rfl, rfl⟩
    · exact enum_begins (begins_text z t) trivial hk.1 hk.2 fun h' he ho _ kp => en_begin (tk := s1.toks) I2 ru (.inr (.inr ⟨z, t, rfl, rfl, rfl⟩)) q he _ ho kp ⟨_, ho, rfl, rfl⟩
  · cases h8⟩
end
end DL
/-! DL18: enumerate of one argument. -/
namespace DL
open PySem PySem.Spec PyProof.Rows L2

set_option maxHeartbeats 1000000 in
theorem meets_en1 {v : Value} {o : Obj} {H : Heap → Prop} (B : Begins v o H) :
    Meets (Builtin.«enumerate.__new__» ⟨[.type "enumerate", v], []⟩) (fun _ R s => H s.heap ∧
      R (.ok (.ret (.ref (s.heap.push o).objs.size))) { s with heap := (s.heap.push o).push { cls := .type "enumerate", data := .fields #[.none, .bool false, .ref s.heap.objs.size, rawInt 0, .none, .none] } }) :=
  .of_wp fun prog w A R s0 hq => by
    obtain ⟨hp, gn, dr, tk, os⟩ := s0
    obtain ⟨hH, hR⟩ := hq
    have hsub := sub_enumerate
    have q1 : ∀ {A' : Around} {E : Value → Shared → Prop} {Q : Value → Shared → Prop}, Q (.ref hp.objs.size) ⟨hp.push o, gn, dr, tk, os⟩ → wpAny (model prog w) A' (pyIter v) Q E ⟨hp, gn, dr, tk, os⟩ :=
      fun q => B.iter prog w _ _ ⟨hp, gn, dr, tk, os⟩ _ hH q
    wp_walk using q1
    refine wpAny_stack_any fun st => wpAny_pure ?_
    split
    · rename_i c _ _ _ _ _
      cases (c == Value.type "enumerate")
      · wp_walk using q1
        exact ⟨_, rfl, hR⟩
      · wp_walk using q1
        exact ⟨_, rfl, hR⟩
    · wp_walk using q1
      exact ⟨_, rfl, hR⟩
theorem en1_begins {prog : Program} {w : World} {A : Around} {E : Value → Shared → Prop} {s : Shared} {v : Value} {o : Obj} {H : Heap → Prop} {Q : Value → Shared → Prop} (B : Begins v o H) (h1 : H s.heap)
    (h : ∀ h', IsEnum h' (s.heap.objs.size + 1) s.heap.objs.size 0 .none → h'.get? s.heap.objs.size = some o →
      (∀ b o, s.heap.get? b = some o → h'.get? b = some o) → Q (.ref (s.heap.objs.size + 1)) { s with heap := h' }) : wpAny (model prog w) A (call (.type "enumerate") [v]) Q E s := by
  refine callType_new F.called_enumerate (by decide) (F.typeCall_enumerate_1 _) (F.newCall_enumerate_1 _) (fun obj => F.args_object_init_2 obj _) F.entry_enumerate_new (meets_en1 B) ⟨h1, ?_⟩
  have hz : (s.heap.push o).objs.size = s.heap.objs.size + 1 := Heap.size_push ..
  show _ ∧ _
  rw [hz]
  have he : IsEnum ((s.heap.push o).push { cls := .type "enumerate", data := .fields #[.none, .bool false, .ref s.heap.objs.size, rawInt 0, .none, .none] }) (s.heap.objs.size + 1) s.heap.objs.size 0 .none := by
    have e2 := Heap.get?_push_size (s.heap.push o) (o := { cls := .type "enumerate", data := .fields #[.none, .bool false, .ref s.heap.objs.size, rawInt 0, .none, .none] }) rfl
    rwa [hz] at e2
  exact ⟨⟨_, he, rfl⟩, h _ he (Heap.get?_push_of_some _ (Heap.get?_push_size _ B.free)) fun b o x => Heap.get?_push_of_some _ (Heap.get?_push_of_some _ x)⟩
section
variable {X : Cx} {a b : Expr} {U : List Nat} {f : Env → R M} {elts : List Expr} {kk : Nat} {tpos p pos : Pos}
/-- enumerate(x) -/
theorem pid_enum1 (hg : Gl X "enumerate") (hm : X.mg "enumerate" = none) (ha : PE X a (tD X.K U f)) (hst : starEach [a] X.env = (false, eval a X.env) :: starEach [] X.env := by rfl) :
    PI X (.Tuple elts kk tpos) (.Call (.Name "enumerate" p) [a] [] pos) (tI X.K U fun ρ => f ρ >>= fun x => itemsM x >>= fun ms => .ok (enumFrom 0 ms)) := ⟨fun pins s σ H Rr Iv h => by
  obtain ⟨ρ, S, ms, sl, hm2, k⟩ := h
  obtain ⟨x, h1, h2⟩ := R.bind_ok hm2
  obtain ⟨l, h7, h8⟩ := R.bind_ok h2
  cases h8
  refine Call_ (ld_blt Iv hg hm boot_enumerate (PyProof.Rows.callWith_type1 (thn ((pa_cons ha pa_nil hst).run pos pins s σ H (fun vs H2 => ∃ v T, vs = [v] ∧ Ex H H2 ∧ IsM X.K H2 v x T ∧ Fr U S H T) Iv ⟨ρ, S, x, sl, h1, fun v H1 T e1 is1 f1 => ⟨v, T, rfl, e1, is1, f1⟩⟩) fun us s1 ⟨vs, H2, I2, rv, v, T, ev, ex, is, fr⟩ => ?_) hst rfl))
  subst ev
  obtain ⟨u, rfl, ru⟩ := vals1 rv
  obtain ⟨sr, sq, cs⟩ := src_sq is fr.nd h7 ru
  have q : Rr (Itn X.K sr 0) H2 := k _ H2 T ex (sq 0) fun a ha => ⟨is.there a ha, fr.fr a ha⟩
  rcases cs with ⟨a, rfl, rfl, xs, hq⟩ | ⟨a, rfl, rfl, xs, hq⟩ | ⟨z, t, rfl, rfl, rfl⟩
  · cases (show u = Value.ref a from ru)
    obtain ⟨its, _, p', _⟩ := I2.list hq
    exact en1_begins (begins_list a its.toArray) p'.isList fun h' he ho kp => en_begin (tk := s1.toks) I2 ru (.inl ⟨a, rfl, rfl, xs, hq⟩) q he _ ho kp ⟨_, ho, rfl, rfl⟩
  · cases (show u = Value.ref a from ru)
    obtain ⟨its, _, p', _⟩ := I2.tuple hq
    exact en1_begins (begins_tuple a its.toArray) p' fun h' he ho kp => en_begin (tk := s1.toks) I2 ru (.inr (.inl ⟨a, rfl, rfl, xs, hq⟩)) q he _ ho kp ⟨_, ho, rfl, rfl⟩
  · exact en1_begins (begins_text z t) trivial fun h' he ho kp => en_begin (tk := s1.toks) I2 ru (.inr (.inr ⟨z, t, rfl, rfl, rfl⟩)) q he _ ho kp ⟨_, ho, rfl, rfl⟩⟩
end
end DL
/-! DL19: comprehensions over dicts: the dict is locked meanwhile. -/
namespace DL
open PySem PySem.Spec PyProof.Rows L2

/-- two heaps that differ in the lock at d -/
structure Sw (H H' : Hp) (d : Addr) (kvs : List (Key × V)) : Prop where
  off : ∀ a, a ≠ d → H' a = H a
  l : Rd H d (.dK kvs)
  r : Rd H' d (.dK kvs)
section
variable {K : PySem.W.Frag} {H H' : Hp} {d : Addr} {kvs : List (Key × V)}
theorem Sw.ne {o : HO} (w : Sw H H' d kvs) {a : Addr} (h : Rd H a o) (n : ∀ k, o ≠ .dK k) (hn : NFo o) : a ≠ d := fun e => by
  subst e
  rcases h with h | ⟨x, h⟩ <;> rcases w.l with q | ⟨y, q⟩ <;> rw [q] at h
  · exact n _ (Option.some.inj h).symm
  · exact hn _ _ (Option.some.inj h).symm
  · cases h
  · cases h
    exact n _ rfl
theorem Sw.rd (w : Sw H H' d kvs) {a : Addr} {o : HO} (h : Rd H a o) (n : ∀ k, o ≠ .dK k) (hn : NFo o) : Rd H' a o := by
  have e := w.off a (w.ne h n hn)
  exact h.imp (fun h => e.trans h) fun ⟨x, h⟩ => ⟨x, e.trans h⟩
theorem Sw.sqT (w : Sw H H' d kvs) {a : Addr} {xs : List V} (h : SqT K H a xs) : SqT K H' a xs := h.imp (fun h => w.rd h (fun _ q => nomatch q) (fun _ _ q => nomatch q)) id
mutual
theorem IsI.sw (w : Sw H H' d kvs) : ∀ {v : V} {i : I}, IsI K H v i → IsI K H' v i
  | _, _, .non => .non
  | _, _, .bl => .bl
  | _, _, .int => .int
  | _, _, .str => .str
  | _, _, .tup h l => .tup (w.sqT h) (IsIs.sw w l)
theorem IsIs.sw (w : Sw H H' d kvs) : ∀ {vs : List V} {l : List I}, IsIs K H vs l → IsIs K H' vs l
  | _, _, .nil => .nil
  | _, _, .cons h r => .cons (IsI.sw w h) (IsIs.sw w r)
end
mutual
theorem IsM.sw (w : Sw H H' d kvs) : ∀ {v : V} {m : M} {S : List Addr}, IsM K H v m S → IsM K H' v m S
  | _, _, _, .im h => .im (h.sw w)
  | _, _, _, .lst h r => .lst ((w.off _ (w.ne (.of h) (fun _ q => nomatch q) (fun _ _ q => nomatch q))).trans h) (IsMs.sw w r)
  | _, _, _, .dic (a := a) (kvs := ks) h e n r => .dic (by
      by_cases q : a = d
      · subst q
        have e2 : ks = kvs := by
          rcases h with h | ⟨x, h⟩ <;> rcases w.l with z | ⟨y, z⟩ <;> (rw [z] at h; cases h) <;> rfl
        rw [e2]
        exact w.r
      · have e3 := w.off a q
        exact h.imp (fun h => e3.trans h) fun ⟨x, h⟩ => ⟨x, e3.trans h⟩) e n (IsMs.sw w r)
  | _, _, _, .obj h e r => .obj ((w.off _ (w.ne (.of h) (fun _ q => nomatch q) (fun _ _ q => nomatch q))).trans h) e (IsMs.sw w r)
  | _, _, _, .tpm h r => .tpm (w.sqT h) (IsMs.sw w r)
  | _, _, _, .scrF h => .scrF ((w.off _ (w.ne (.inr ⟨_, h⟩) (fun _ q => nomatch q) (fun _ _ q => nomatch q))).trans h)
  | _, _, _, .scrK h => .scrK h
  | _, _, _, .scrL h => .scrL ((w.off _ (w.ne (.of h) (fun _ q => nomatch q) (fun _ _ q => nomatch q))).trans h)
theorem IsMs.sw (w : Sw H H' d kvs) : ∀ {v : List V} {m : List M} {S : List Addr}, IsMs K H v m S → IsMs K H' v m S
  | _, _, _, .nil => .nil
  | _, _, _, .cons h r => .cons (IsM.sw w h) (IsMs.sw w r)
end
theorem Slots.sw (w : Sw H H' d kvs) {σ : L2.St} {ρ : Env} {S : Nat → List Addr} (h : Slots K H σ ρ S) : Slots K H' σ ρ S := ⟨h.len, h.nd, h.out, fun i m q => let ⟨v, a, b⟩ := h.at_ i m q; ⟨v, a, b.sw w⟩⟩
theorem atV_sw (w : Sw H H' d kvs) : ∀ {pl : List Stp} {v u : V}, atV H v pl = some u → atV H' v pl = some u
  | [], v, u, h => h
  | .fld C f :: pl, v, u, h => by
    cases v with
    | ref a =>
      simp only [atV] at h ⊢
      split at h
      · rename_i C' dx vs e
        rw [w.off a (w.ne (.of e) (fun _ q => nomatch q) (fun _ _ q => nomatch q)), e]
        simp only
        split at h
        · rename_i hc
          rw [if_pos hc]
          split at h
          · rename_i x e2
            exact atV_sw w h
          · cases h
        · cases h
      · cases h
    | _ => simp [atV] at h
theorem Slots.place {σ : L2.St} {ρ : Env} {S : Nat → List Addr} {i : Nat} {m n : M} {pl : List Stp} (h : Slots K H σ ρ S) (hm : getV ρ i = .ok m) (hs : subM m pl = some n) : ∃ v w T, σ[i]? = some (some v) ∧ atV H v pl = some w ∧ IsM K H w n T ∧ T.Nodup ∧ ∀ a ∈ T, a ∈ S i := by
  unfold getV at hm
  split at hm
  · rename_i m' e
    cases hm
    obtain ⟨v, h1, h2⟩ := h.at_ i m e
    obtain ⟨w, T, g1, g2, g3, g4, _⟩ := h2.place pl (h.nd i) hs
    exact ⟨v, w, T, h1, g1, g2, g4, g3⟩
  · cases hm
/-- a place's value -/
def plM (i : Nat) (pl : List Stp) : Env → R M := fun ρ => getV ρ i >>= fun m => match subM m pl with
  | some n => .ok n
  | none => .no
/-- what a dict gives when walked: its keys, its values, its pairs -/
inductive Wk where | keys | vals | items
  deriving DecidableEq
def Wk.one : Wk → Key × M → M
  | .keys, (k, _) => .im (kI k)
  | .vals, (_, m) => m
  | .items, (k, .im v) => mT [kI k, v]
  | .items, (k, m) => .tpm [.im (kI k), m]
def wkM (wk : Wk) : M → R (List M)
  | .dic l => .ok (l.map wk.one)
  | _ => .no
def Wk.it (wk : Wk) (d : Addr) (o : Obj) (kvs : List (Key × V)) : It := match wk with
  | .keys => Itk d o kvs
  | .vals => Itd d o kvs
  | .items => Iti d o kvs
theorem dic_at {l : List (Key × M)} {T : List Addr} : ∀ {kvs : List (Key × V)} {l : List (Key × M)} {T : List Addr} {i : Nat} {k : Key} {v : V}, kvs.map (·.1) = l.map (·.1) → IsMs K H (kvs.map (·.2)) (l.map (·.2)) T → T.Nodup → kvs[i]? = some (k, v) → ∃ m Tv, l[i]? = some (k, m) ∧ IsM K H v m Tv ∧ Tv.Nodup ∧ ∀ a ∈ Tv, a ∈ T
  | [], _, _, i, k, v, _, _, _, h => by simp at h
  | _ :: _, [], _, _, _, _, h, _, _, _ => by simp at h
  | (g, y) :: kvs, (g', m) :: l, T, i, k, v, h, is, nd, e => by
    simp only [List.map_cons, List.cons.injEq] at h
    obtain ⟨rfl, h⟩ := h
    have is : IsMs K H (y :: kvs.map (·.2)) (m :: l.map (·.2)) T := is
    cases is with
    | cons i1 i2 =>
      have n2 := List.nodup_append.mp nd
      cases i with
      | zero =>
        cases e
        exact ⟨m, _, rfl, i1, n2.1, fun a ha => List.mem_append_left _ ha⟩
      | succ i =>
        obtain ⟨m', Tv, a, b, c, z⟩ := dic_at (l := []) (T := []) h i2 n2.2.1 (show kvs[i]? = some (k, v) from e)
        exact ⟨m', Tv, a, b, c, fun a ha => List.mem_append_right _ (z a ha)⟩
theorem wk_sq (wk : Wk) {o : Obj} {l : List (Key × M)} {T : List Addr} (hd : H d = some (.frz o (.dK kvs))) (g2 : kvs.map (·.1) = l.map (·.1)) (g4 : IsMs K H (kvs.map (·.2)) (l.map (·.2)) T) (nd : T.Nodup) (nT : d ∉ T) : Sq K (wk.it d o kvs) H (d :: T) (l.map wk.one) := by
  have len : (l.map wk.one).length = kvs.length := by
    have := congrArg List.length g2
    simpa using this.symm
  have fr : ∀ H', TK H H' → H' d = some (.frz o (.dK kvs)) := fun H' t => t.frz _ _ _ hd
  cases wk with
  | keys =>
    refine ⟨fun H => H d = some (.frz o (.dK kvs)), _, len ▸ walk_keys, fun H' _ t => fr H' t, fun i H3 x H' hi kp t hy => ?_⟩
    obtain ⟨rfl, k, v, h1, rfl⟩ := hy
    obtain ⟨m, Tv, a, _⟩ := dic_at (l := []) (T := []) g2 g4 nd h1
    exact ⟨Ex.refl _, .im (kI k), [], by rw [List.getElem?_map, a]; rfl, .im (kI_is k), List.nodup_nil, fun _ z => (nomatch z)⟩
  | vals =>
    refine ⟨fun H => H d = some (.frz o (.dK kvs)), _, len ▸ walk_values, fun H' _ t => fr H' t, fun i H3 x H' hi kp t hy => ?_⟩
    obtain ⟨rfl, k, h1⟩ := hy
    obtain ⟨m, Tv, a, b, c, z⟩ := dic_at (l := []) (T := []) g2 (g4.keep t fun b hb => kp b (List.mem_cons_of_mem _ hb)) nd h1
    exact ⟨Ex.refl _, m, Tv, by rw [List.getElem?_map, a]; rfl, b, c, fun b hb => List.mem_cons_of_mem _ (z b hb)⟩
  | items =>
    refine ⟨fun H => H d = some (.frz o (.dK kvs)), _, len ▸ walk_items, fun H' _ t => fr H' t, fun i H3 x H' hi kp t hy => ?_⟩
    obtain ⟨T', y, w, rfl, h1, rfl, h2, h3⟩ := hy
    have h2 : kvs[i]?.map (fun kv => kV kv.1) = some y := h2
    have h3 : kvs[i]?.map Prod.snd = some w := h3
    cases q : kvs[i]? with
    | none => rw [q] at h2; cases h2
    | some kv =>
      obtain ⟨k, v⟩ := kv
      rw [q] at h2 h3
      cases h2
      cases h3
      obtain ⟨m, Tv, a, b, c, z⟩ := dic_at (l := []) (T := []) g2 (g4.keep t fun b hb => kp b (List.mem_cons_of_mem _ hb)) nd q
      have ex : Ex H3 (L2.upd H3 T' (.tup [kV k, v])) := Ex.new h1
      refine ⟨ex, Wk.one .items (k, m), Tv, by rw [List.getElem?_map, a]; rfl, ?_, c, fun b hb => List.mem_cons_of_mem _ (z b hb)⟩
      have b2 := b.ex ex
      by_cases hm : ∃ i, m = .im i
      · obtain ⟨i, rfl⟩ := hm
        obtain ⟨rfl, b3⟩ := b2.im_nil
        exact .im (.tup (.of upd_same) (.cons (kI_is k) (.cons b3 .nil)))
      · have e : Wk.one .items (k, m) = .tpm [.im (kI k), m] := by
          cases m with
          | im i => exact absurd ⟨i, rfl⟩ hm
          | _ => rfl
        rw [e]
        refine .tpm (.of upd_same) ?_
        have := IsMs.cons (.im (kI_is (K := K) (H := L2.upd H3 T' (.tup [kV k, v])) k)) (IsMs.cons b2 .nil)
        simpa using this
end
section
variable {X : Cx} {e : Expr} {i : Nat} {pl : List Stp} {apos cpos pos : Pos} {tg : Expr}
/-- the dict at a place, walked -/
def iWk (wk : Wk) (td : TE) : TI := fun σ H R => td σ H fun x H1 => ∃ d o kvs, x = .ref d ∧ H1 d = some (.frz o (.dK kvs)) ∧ R (wk.it d o kvs) H1
theorem pid_keys (he : PE X e (tP i pl)) : PI X tg e (iWk .keys (tP i pl)) := ⟨fun pins s σ H Rr Iv h => (pi_keys he).run pins s σ H Rr Iv (by
  obtain ⟨v, w, h1, h2, d, o, kvs, h3, h4, h5⟩ := h
  exact ⟨v, w, h1, h2, d, o, h3, .inl ⟨kvs, h4, h5⟩⟩)⟩
theorem pid_keysM (he : PE X e (tP i pl)) (hbase : attributeBase e "keys" X.env (eval e X.env) = eval e X.env := by rfl) (hline : (apos.endLine == cpos.line) = true := by rfl) : PI X tg (.Call (.Attribute e "keys" apos) [] [] cpos) (iWk .keys (tP i pl)) := ⟨fun pins s σ H Rr Iv h => (pi_keysM he hbase hline).run pins s σ H Rr Iv h⟩
theorem pid_values (he : PE X e (tP i pl)) (hbase : attributeBase e "values" X.env (eval e X.env) = eval e X.env := by rfl) (hline : (apos.endLine == cpos.line) = true := by rfl) : PI X tg (.Call (.Attribute e "values" apos) [] [] cpos) (iWk .vals (tP i pl)) := ⟨fun pins s σ H Rr Iv h => (pi_values he hbase hline).run pins s σ H Rr Iv h⟩
theorem pid_items {elts : List Expr} {kk : Nat} {tpos : Pos} (he : PE X e (tP i pl)) (hbase : attributeBase e "items" X.env (eval e X.env) = eval e X.env := by rfl) (hline : (apos.endLine == cpos.line) = true := by rfl) : PI X (.Tuple elts kk tpos) (.Call (.Attribute e "items" apos) [] [] cpos) (iWk .items (tP i pl)) := ⟨fun pins s σ H Rr Iv h => (pi_items he hbase hline).run pins s σ H Rr Iv h⟩
variable {elt iter : Expr} {ifs : List Expr} {scope : Scope} {own : List (Str × Nat)}
theorem plM_is {ρ : Env} {m : M} (h : plM i pl ρ = .ok m) : ∃ m0, getV ρ i = .ok m0 ∧ subM m0 pl = some m := by
  obtain ⟨m0, h1, h2⟩ := R.bind_ok h
  refine ⟨m0, h1, ?_⟩
  split at h2
  · cases h2; assumption
  · cases h2
/-- [e for x in d if ..], d a dict at a place -/
theorem pd_lcK {wk : Wk} {gt : M → Env → R Env} {ft : Env → R Bool} {fe : Env → R M} (hc : X.calm = true) (hN : X.N.Nodup) (ok : BlkOk X.N X.env.scope scope own) (hi : PI X tg iter (iWk wk (tP i pl)))
    (hg : ∀ (s : Shared) (H : Hp) (C : Addr) (cl : List (Str × Addr)) (fp : List Addr), PG (X.blk s H scope (compEnvC scope cl C X.env) fp) tg (tGS X.K (own.map (·.2)) gt)) (ht : ∀ (s : Shared) (H : Hp) (C : Addr) (cl : List (Str × Addr)) (fp : List Addr), PTs (X.blk s H scope (compEnvC scope cl C X.env) fp) ifs (tDT X.K ft))
    (he : ∀ (s : Shared) (H : Hp) (C : Addr) (cl : List (Str × Addr)) (fp : List Addr), PE (X.blk s H scope (compEnvC scope cl C X.env) fp) elt (tD X.K [] fe)) (hs : ∀ x, foldedSetIterable iter X.env x = pure x := by intro _; rfl) :
    PE X (.ListComp elt [⟨tg, iter, ifs, 0⟩] scope pos) (tD X.K [] (lcM (own.map (·.2)) (fun ρ => plM i pl ρ >>= wkM wk) gt ft fe)) := by
  have base := pe_lc (pos := pos) hc hN hi ok hg ht he hs
  refine ⟨fun pins s σ H Q Iv h => ?_⟩
  obtain ⟨ρ, S, m, sl, hm, k⟩ := id h
  obtain ⟨xs, h1, h2⟩ := R.bind_ok (show ((plM i pl ρ >>= wkM wk) >>= fun xs => if xs.length ≤ sizeLine then lcR gt ft fe (wipeE (own.map (·.2)) ρ) xs >>= fun l => .ok (.lst l) else .no) = .ok m from hm)
  obtain ⟨n, h3, h4⟩ := R.bind_ok h1
  obtain ⟨m0, h5, h6⟩ := plM_is h3
  cases n with
  | dic l =>
    cases h4
    obtain ⟨v, w, T, g1, g2, g3, g4, g5⟩ := sl.place h5 h6
    obtain ⟨d, kvs, T0, rfl, d1, d2, d3, d4, rfl⟩ := g3.dic'
    have nd := List.nodup_cons.mp g4
    -- the walk over the locked dict
    have walk : ∀ (H2 : Hp) (o : Obj) (Q2 : VK), H2 d = some (.frz o (.dK kvs)) → Slots X.K H2 σ ρ S → atV H2 v pl = some (.ref d) → IsMs X.K H2 (kvs.map (·.2)) (l.map (·.2)) T0 → (∀ v3 H3 T3, Ex H2 H3 → IsM X.K H3 v3 m T3 → Fr [] S H2 T3 → Q2 v3 H3) →
        tLc (iWk wk (tP i pl)) (tGS X.K (own.map (·.2)) gt) (tDT X.K ft) (tD X.K [] fe) (own.map (·.2)) σ H2 Q2 := fun H2 o Q2 e1 e2 e3 e4 e5 => by
      have q : tLc (tI X.K [i] fun ρ => plM i pl ρ >>= wkM wk) (tGS X.K (own.map (·.2)) gt) (tDT X.K ft) (tD X.K [] fe) (own.map (·.2)) σ H2 Q2 := imp_lc ⟨ρ, S, m, e2, hm, e5⟩
      obtain ⟨ρ', S', ms, sl', hf, kk⟩ := q
      refine ⟨v, .ref d, g1, e3, d, o, kvs, rfl, e1, ?_⟩
      obtain ⟨n', q3, q4⟩ := R.bind_ok hf
      obtain ⟨m1, q5, q6⟩ := plM_is q3
      obtain ⟨v', w', T', p1, p2, p3, p4, p5⟩ := sl'.place q5 q6
      rw [g1] at p1
      cases p1
      rw [e3] at p2
      cases p2
      cases n' with
      | dic l' =>
        cases q4
        obtain ⟨d', kvs', T1, r0, r1, r2, r3, r4, rfl⟩ := p3.dic'
        cases r0
        have e6 : kvs' = kvs := by
          rcases r1 with z | ⟨y, z⟩ <;> (rw [e1] at z; cases z)
          rfl
        subst e6
        have nd2 := List.nodup_cons.mp p4
        exact kk (wk.it d o kvs') H2 (d :: T1) (Ex.refl H2) (wk_sq wk e1 r2 r4 nd2.2 nd2.1) fun a ha => ⟨p3.there a ha, .inr ⟨i, List.mem_singleton.mpr rfl, p5 a ha⟩⟩
      | _ => cases q4
    rcases id d1 with hl | ⟨o, hz⟩
    · -- the lock is laid
      refine (pe_lock base).run pins s σ H Q Iv ⟨d, .dK kvs, hl, trivial, fun od => ?_⟩
      have sw : Sw H (L2.upd H d (.frz od (.dK kvs))) d kvs := ⟨fun a q => upd_ne q, .of hl, .inr ⟨od, upd_same⟩⟩
      refine walk _ od _ upd_same (sl.sw sw) (atV_sw sw g2) (d4.sw sw) fun v3 H3 T3 x3 is3 fr3 => ?_
      have e3 : H3 d = some (.frz od (.dK kvs)) := x3 _ _ upd_same
      have sw2 : Sw H3 (L2.upd H3 d (.dK kvs)) d kvs := ⟨fun a q => upd_ne q, .inr ⟨od, e3⟩, .of upd_same⟩
      refine ⟨e3, k v3 _ T3 ⟨fun a o e => ?_, fun a n => ?_⟩ (is3.sw sw2) ⟨fr3.nd, fun a ha => .inl ?_⟩⟩
      · by_cases q : a = d
        · subst q
          rw [hl] at e
          rw [upd_same]; exact e
        · rw [upd_ne q]
          exact x3 a o (by rw [upd_ne q]; exact e)
      · by_cases q : a = d
        · subst q
          exact .some upd_same (fun _ _ z => nomatch z)
        · have n2 : NF (L2.upd H d (.frz od (.dK kvs))) a := fun o u z => n o u (by rw [upd_ne q] at z; exact z)
          exact (x3.nf a n2).upd (fun _ _ z => nomatch z)
      · have z := fr3.new.free a ha
        by_cases q : a = d
        · subst q
          rw [upd_same] at z
          cases z
        · rwa [upd_ne q] at z
    · exact base.run pins s σ H Q Iv (walk H o Q hz sl g2 d4 k)
  | _ => cases h4
end
end DL
/-! DL20: defs whose promise holds where no repr is under way (repr of lists and tuples asks that); repr. -/
namespace DL
open PySem PySem.Spec PyProof.Rows L2

/-- a def's promise, where no repr is under way -/
structure FnG (P : Program) (w : World) (K : PySem.W.Frag) (mg : Str → Option Value) (base : Heap) (CX : CXT) (k : Nat) (f : Addr) (fd : FuncData) (ps : List Str) (sp : Sp) : Prop where
  len : ∀ vs H Q E, sp vs H Q E → vs.length = ps.length
  run : ∀ (A : Around) (outer : List PySem.Env) (s : Shared) (H : Hp) (args : Args) (us : List Value) (vs : List V) (Q : VK) (E : XK), A.guards = some [] → Room k A → Env0 P w K mg base A outer s H → BindsTo s fd args (ps.zip us) → Vals vs us → sp vs H Q E →
    codeAny (model P w) A (.call (.ref f) args) (CR CX outer P w H s Q E) s
section
variable {P : Program} {w : World} {K : PySem.W.Frag} {mg : Str → Option Value} {base : Heap} {CX : CXT} {k : Nat} {f : Addr} {fd : FuncData} {ps : List Str} {sp : Sp}
theorem _root_.L2.FnOk.toG (F : FnOk P w K mg base CX k f fd ps sp) : FnG P w K mg base CX k f fd ps sp := ⟨F.len, fun A outer s H args us vs Q E _ => F.run A outer s H args us vs Q E⟩
theorem FnG.mono {j : Nat} (F : FnG P w K mg base CX j f fd ps sp) (h : j ≤ k) : FnG P w K mg base CX k f fd ps sp := ⟨F.len, fun A outer s H args us vs Q E g hr => F.run A outer s H args us vs Q E g (hr.mono h)⟩
end
section
variable {X : Cx} {CX : CXT} {k : Nat} {f : Addr} {fd : FuncData} {ps : List Str} {sp : Sp} {E : XK}
theorem runG {pins : List (Addr × Obj)} {σ : L2.St} {H : Hp} {s : Shared} {Q : VK} {us : List Value} {vs : List V} (g : X.A.guards = some []) (F : FnG X.prog X.w X.K X.mg X.base CX k f fd ps sp) (hr : Room k X.A) (hb : Binds X.K fd ps []) (hx : Passes CX X E)
    (Iv : Inv X pins σ H s) (rv : Vals vs us) (q : sp vs H Q E) : wpAny (model X.prog X.w) X.A (call (.ref f) us) (EP X pins σ Q) X.xe s := by
  have ln : (us ++ ([] : List Value)).length = ps.length := by
    rw [List.append_nil, ← rv.length]
    exact F.len _ _ _ _ q
  refine wpAny_call (codeAny_mono (F.run X.A X.stack s H ⟨us, []⟩ (us ++ []) vs Q E g hr Iv.env0 (hb s us Iv.kIn ln) ((List.append_nil us).symm ▸ rv) q) fun r s2 hq => ?_)
  match r, hq with
  | .error e, hq => exact hx pins σ H s e s2 Iv hq
  | .ok (.ret u), hq => exact Iv.after hq
  | .ok .next, hq => exact hq.elim
  | .ok .brk, hq => exact hq.elim
  | .ok .cont, hq => exact hq.elim
variable {x : Str} {p pos : Pos} {e : Expr} {es : List Expr} {U : List Nat} {G : Env → R (List M)} {F : List M → R M}
/-- f(..), f of such a promise -/
theorem pd_callG (g : X.A.guards = some []) (Fn : FnG X.prog X.w X.K X.mg X.base CX k f fd ps (spP X.K F)) (hr : Room k X.A) (hg : Gl X x) (hm : X.mg x = some (.ref f)) (hk : PySem.W.keepIn X.K (.ref f) = true) (hb : Binds X.K fd ps []) (hx : Passes CX X E)
    (ha : PA X (e :: es) (tDA X.K U G)) (hdb : (x == ("__debug__" : Str)) = false := by decide) (he : starEach (e :: es) X.env = (false, eval e X.env) :: starEach es X.env := by rfl) (hpl : (backTo pos (starEach es X.env)).any (·.1) = false := by rfl) :
    PE X (.Call (.Name x p) (e :: es) [] pos) (tD X.K [] fun ρ => G ρ >>= F) := ⟨fun pins s σ H Q Iv h => by
  have q := imp_callP (X := X) (U := U) (E := E) h
  refine wpAny_Call_Name_kw (ld_glob Iv hg hm (PySem.W.callWith_K (h₀ := X.base) Iv.ok.mod.kin hk (thn (ha.run pos pins s σ H _ Iv q) fun us s2 ⟨vs, H2, I2, rv, q2⟩ => ⟨I2.kIn, ?_⟩) he hpl) hdb)
  exact runG g Fn hr hb hx I2 rv (by simpa using q2)⟩
end

/-! ### a def by its body -/
section
variable {P : Program} {w : World} {K : PySem.W.Frag} {mg : Str → Option Value} {base : Heap}
theorem Fun.okG {x qual : Str} {st : Stmt} {f : Addr} {fd : FuncData} {N ps : List Str} {k : Nat} {sp : Sp} (Fu : Fun K x qual st f fd) (Sc : FnScope N ps (defScope st)) (len : ∀ vs H Q E, sp vs H Q E → vs.length = ps.length)
    (hb : ∀ (cdv : Value) (A : Around) (outer : List PySem.Env) (s : Shared) (H : Hp) (vs : List V) (Q : VK) (E : XK), A.guards = some [] → Room k (A.deeper (envOfC qual (defScope st) s.heap.objs.size f cdv)) → sp vs H Q E →
      ∃ t, PSs (cxOf CX0 P w K mg base N qual (defScope st) f cdv A outer s H E).nox (defBody st) t ∧ t { nx := fun _ H' => Q .non H', rt := Q } (L2.start N vs) H) : FnG P w K mg base CX0 (k + 1) f fd ps sp := by
  obtain ⟨oc, od, kV, doc, pm, an, cdv, ct, osl, rfl, lk, hcd⟩ := Fu.ex
  refine ⟨len, fun A outer s H args us vs Q E hgd hroom en hbd rv q => ?_⟩
  have KX : K.In s.heap := en.mod.kin.keeps fun b o y => (en.bs b o y).1
  refine codeAny_call_function hroom.depth (KX _ _ lk) rfl Sc.co Sc.gen rfl (PySem.W.codeRec_of KX hcd) (hbd _ _ _ _ (wpAny_newFunctionEnv_cells Sc.kind (fun ⟨n, v⟩ hy => ?_) fun env he s2 y => ?_))
  · rcases Sc.par n (List.of_mem_zip hy).1 with z | z
    · exact .inl z
    · exact .inr ⟨z, PySem.W.cellsFrom_some _ _ _ (.inl z)⟩
  · subst he
    refine ⟨Heap.NoLimit.keeps (en.mod.nolimit.keeps fun b o z => (en.bs b o z).1) y.toInCall.keep, codeAny_func ?_⟩
    obtain ⟨t, ht, hq⟩ := hb cdv A outer s H vs Q E hgd (hroom.deeper _) q
    refine wpAny_mono (ht.nox.run [] s2 (L2.start N vs) H _ (inv_start Sc hroom.hd en (len _ _ _ _ q) rv y) hq) (fun fl s3 hs => ?_) fun e s3 hs => hs
    match fl, hs with
    | .ret u, ⟨v, σ3, H3, J, ru, q3⟩ => exact ⟨v, H3, J.os, J.bare, J.base, J.hok, ru, q3⟩
    | .next, ⟨σ3, H3, J, q3⟩ => exact ⟨.non, H3, J.os, J.bare, J.base, J.hok, rfl, q3⟩
    | .brk, ⟨_, _, _, q3⟩ => exact q3.elim
    | .cont, ⟨_, _, _, q3⟩ => exact q3.elim
end
end DL
/-! DL21: a def's body where no repr is under way; repr; the head. -/
namespace DL
open PySem PySem.Spec PyProof.Rows L2

section
variable {P : Program} {w : World} {K : PySem.W.Frag} {mg : Str → Option Value} {base : Heap} {x qual : Str} {st : Stmt} {f : Addr} {fd : FuncData} {N ps : List Str} {k : Nat} {md : List Md} {fb : Env → R Fl}
theorem fn_pureG (Fu : Fun K x qual st f fd) (Sc : FnScope N ps (defScope st)) (hmd : md.length = N.length) (hp : ps.length ≤ N.length) (hpar : ∀ i, i < ps.length → ¬ (md[i]? = some Md.loc ∨ md[i]? = some Md.io))
    (body : ∀ (cdv : Value) (A : Around) (outer : List PySem.Env) (s : Shared) (H : Hp) (E : XK), A.guards = some [] → Room k (A.deeper (envOfC qual (defScope st) s.heap.objs.size f cdv)) → PSsD (cxOf CX0 P w K mg base N qual (defScope st) f cdv A outer s H E).nox md (defBody st) fb) :
    FnG P w K mg base CX0 (k + 1) f fd ps (spP K (defP ps.length N.length fb)) := by
  refine DL.Fun.okG Fu Sc (fun vs H Q E h => ?_) (fun cdv A outer s H vs Q E hgd hr h => ?_)
  · obtain ⟨ms, Ts, r, h1, h2, _⟩ := h
    unfold defP at h2
    split at h2
    · rename_i e
      rw [h1.length.1, e]
    · cases h2
  · obtain ⟨ms, Ts, r0, h1, h2, kk⟩ := h
    unfold defP at h2
    split at h2
    · rename_i e
      let r : Rn := { K := K, H0 := H, B := [], md := md, σ1 := L2.start N vs, ρ1 := env0 N.length ms, S1 := footS Ts }
      obtain ⟨sl, tr⟩ := start_slots h1 (N := N) (by omega)
      have hown : ∀ a, r.Own a → H a = none := fun a o => o.elim id fun z => by cases z
      have hrel : Rel r H (L2.start N vs) (env0 N.length ms) (footS Ts) := by
        refine ⟨sl, ?_, Fm.refl _ _, fun i a ha => (tr i a ha).1, fun i j a _ ha _ o => ?_, fun i hi a ha => ?_, fun i hi => rfl, fun i hi => ⟨rfl, rfl, rfl⟩, fun a ha => (nomatch ha)⟩
        · show md.length = _
          rw [hmd]
          unfold env0
          simp
          omega
        · obtain ⟨o', q⟩ := (tr i a ha).1
          rw [hown a o] at q; cases q
        · exact absurd hi (hpar i (by have := (tr i a ha).2; omega))
      refine ⟨_, body cdv A outer s H E hgd hr r rfl rfl, env0 N.length ms, footS Ts, hrel, ?_⟩
      unfold retF at h2
      split at h2
      · rename_i m ρ q
        cases h2
        rw [q]
        exact fun v σ H' S T h3 is ro => kk v H' T h3.fm.ex is ⟨fun a ha => hown a (ro.own a ha), ro.nd⟩
      · rename_i ρ q
        cases h2
        rw [q]
        exact fun σ H' S h3 => kk .non H' [] h3.fm.ex (.im .non) .nil
      · cases h2
      · cases h2
      · cases h2
    · cases h2
end

/-! ### repr of data without dicts -/
mutual
theorem plain_noDict : ∀ d : PyData, d.plain = true → d.hasDict = false
  | .none, _ => by simp only [PyData.hasDict]
  | .bool _, _ => by simp only [PyData.hasDict]
  | .int _, _ => by simp only [PyData.hasDict]
  | .str _, _ => by simp only [PyData.hasDict]
  | .list xs, h => by
    simp only [PyData.hasDict]
    exact plain_noDicts xs (by simpa only [PyData.plain] using h)
  | .tuple xs, h => by
    simp only [PyData.hasDict]
    exact plain_noDicts xs (by simpa only [PyData.plain] using h)
  | .dict _, h => by simp [PyData.plain] at h
theorem plain_noDicts : ∀ d : List PyData, PyData.plainAll d = true → PyData.hasDictAll d = false
  | [], _ => by simp only [PyData.hasDictAll]
  | d :: l, h => by
    simp only [PyData.plainAll, Bool.and_eq_true] at h
    simp only [PyData.hasDictAll, plain_noDict d h.1, plain_noDicts l h.2, Bool.or_self]
end
def reprM : List M → R M
  | [m] => match dM m with
    | some d => if d.showable = true ∧ d.shown.length ≤ sizeLine ∧ d.depth ≤ 60 then .ok (mS d.shown) else .no
    | none => .no
  | _ => .no
theorem c_repr {X : Cx} (hg : X.A.guards = some []) (hu : X.A.units + 64 < cLine) : CallR X (.builtin "repr") (rDC X.K reprM) := fun pins s σ H xs us Q Iv rv q => by
  obtain ⟨ms, Ts, r, h1, h2, k⟩ := q
  unfold reprM at h2
  split at h2
  · rename_i m
    split at h2
    · rename_i d hd
      split at h2
      · rename_i hc
        cases h2
        obtain ⟨c1, c2, c3⟩ := hc
        obtain ⟨v, S, rfl, is, _⟩ := h1.one
        obtain ⟨u, rfl, ru⟩ := vals1 rv
        have k' := k (.str d.shown) H [] (Ex.refl H) (.im .str) .nil
        have dp := is.dp d hd
        have nd := plain_noDict d (dM_plain _ _ hd)
        obtain ⟨as, rd⟩ := Dp.reads Iv d v u dp ru
        cases v with
        | ref a =>
          cases (show u = Value.ref a from ru)
          exact repr_of_reads' rd c1 (fun z => by rw [nd] at z; cases z) hg (by omega) (fun _ _ e => e) (fun h' u tk hk => ⟨.str _, H, Iv.kept hk, ⟨_, rfl⟩, k'⟩) c2
        | non =>
          cases dp
          cases (show u = Value.none from ru)
          simp only [PyData.shown] at k'
          exact P.repr_of_none ⟨.str _, H, Iv.tok _, ⟨_, rfl⟩, k'⟩
        | bl b =>
          cases dp
          cases (show u = Value.bool b from ru)
          simp only [PyData.shown] at k'
          exact P.repr_of_bool ⟨.str _, H, Iv.tok _, ⟨_, rfl⟩, k'⟩
        | int i =>
          cases dp
          obtain ⟨t, rfl⟩ := ru
          simp only [PyData.shown] at k'
          exact P.repr_of_int (by simpa only [PyData.showable, decide_eq_true_eq] using c1) ⟨.str _, H, Iv.tok _, ⟨_, rfl⟩, k'⟩
        | str z =>
          cases dp
          obtain ⟨t, rfl⟩ := ru
          simp only [PyData.shown] at k' c2
          exact P.repr_of_str ⟨.str _, H, Iv.tok _, ⟨_, rfl⟩, k'⟩ c2
        | _ => cases dp
      · cases h2
    · cases h2
  · cases h2
end DL
/-! DL22: the head for such a promise. -/
namespace DL
open PySem PySem.Spec PyProof.Rows L2

/-- the script's abstract heap: known to the object, if it is not of the module -/
def scrH (K : PySem.W.Frag) (a : Addr) (vs : List Value) (ns : List Int) : Hp := fun b => if b = a ∧ K.lookup a = none then some (.frz { cls := .type "list", data := .seq vs.toArray } (.lst (ns.map V.int))) else none
theorem law_callG {P : Program} {w : World} {K : PySem.W.Frag} {mg mb : Str → Option Value} {CX : CXT} {k : Nat} {fa a : Addr} {fd : FuncData} {x : Str} {sp : Sp} {t1 : Shared} {vs : List Value} {ns : List Int}
    (kin : K.In t1.heap) (gns : t1.heap.Ns mainGlobals mg) (bns : t1.heap.Ns builtinsNs mb) (bb : ∀ y : Str, y ≠ "__name__" → mb y = bootBuiltins y) (nl : t1.heap.NoLimit) (gen : t1.gens = #[])
    (ea : t1.heap.get? a = some { cls := .type "list", data := .seq vs.toArray }) (ia : IntsAre vs ns) (ln : ns.length ≤ sizeLine) (room : Room k callerA)
    (F : ∀ base : Heap, K.In base → base.Ns mainGlobals mg → FnG P w K mg base CX k fa fd [x] sp) (hbind : ∀ (s : Shared) (u : Value), BindsTo s fd ⟨[u], []⟩ [(x, u)])
    (hsp : ∀ H : Hp, Only H → SqL K H a (ns.map V.int) → sp [.ref a] H (fun v _ => v = .bl true) fun _ _ _ => False)
    (hCX : ∀ H e s', CX [] H t1 (fun _ _ _ => False) e s' → False) :
    codeAny (model P w) callerA (.call (.ref fa) ⟨[.ref a], []⟩) (fun r s' => r = .ok (.ret (.bool true)) ∧ OldK t1.heap s'.heap ∧ s'.os = t1.os ∧ AllBare s'.gens) t1 := by
  have rv := vals_ints ia
  have at_ : ∀ {b : Addr} {u : HO}, scrH K a vs ns b = some u → b = a ∧ K.lookup a = none ∧ u = .frz { cls := .type "list", data := .seq vs.toArray } (.lst (ns.map V.int)) := fun {b u} y => by
    unfold scrH at y
    split at y
    · rename_i h
      exact ⟨h.1, h.2, (Option.some.inj y).symm⟩
    · cases y
  have only : Only (scrH K a vs ns) := fun b => by
    cases y : scrH K a vs ns b with
    | none => exact .inl rfl
    | some u =>
      obtain ⟨_, _, rfl⟩ := at_ y
      exact .inr ⟨_, _, rfl⟩
  have seq : SqL K (scrH K a vs ns) a (ns.map V.int) := by
    cases y : K.lookup a with
    | none => exact .inl (.inr ⟨_, if_pos ⟨rfl, y⟩⟩)
    | some o =>
      have z := (kin a o y).symm.trans ea
      cases z
      exact .inr ⟨_, _, _, y, rfl, rfl, rfl, by rw [List.size_toArray, ia.length]; exact ln, by simpa using rv⟩
  have ok : HOk P w (scrH K a vs ns) t1.heap := fun b u y => by
    obtain ⟨rfl, _, rfl⟩ := at_ y
    exact ⟨ea, by rw [List.length_map]; exact ln, vs, _, rv, ea⟩
  -- what is not the script stands in the base
  have sees : ∀ {b : Addr} {o : Obj}, t1.heap.get? b = some o → scrH K a vs ns b = none → (hidT t1.heap (scrH K a vs ns)).get? b = some o := fun y n => hidT_get y n
  have names : ∀ {b : Addr} {m : Str → Option Value}, t1.heap.Ns b m → (hidT t1.heap (scrH K a vs ns)).Ns b m := fun {b m} ⟨o, es, ep, y, d, r⟩ => by
    refine ⟨o, es, ep, sees y ?_, d, r⟩
    cases z : scrH K a vs ns b with
    | none => rfl
    | some u =>
      obtain ⟨rfl, _, _⟩ := at_ z
      cases ea.symm.trans y
      exact nomatch (show Data.seq vs.toArray _ = Data.dict es ep from d)
  have kin2 : K.In (hidT t1.heap (scrH K a vs ns)) := fun b o y => by
    refine sees (kin b o y) ?_
    cases z : scrH K a vs ns b with
    | none => rfl
    | some u =>
      obtain ⟨rfl, n, _⟩ := at_ z
      exact nomatch n.symm.trans y
  obtain ⟨mc, l1, l2⟩ := nl
  have en : Env0 P w K mg (hidT t1.heap (scrH K a vs ns)) callerA [] t1 (scrH K a vs ns) :=
    ⟨rfl, ⟨kin2, names gns, ⟨mb, names bns, bb⟩, ⟨mc, names l1, l2⟩⟩, fun b o y => of_hidT y, Nat.le_of_eq (hidT_size _ _), trivial, fun b hb => (nomatch hb), ok, .of_eq gen⟩
  refine codeAny_mono ((F _ kin2 (names gns)).run callerA [] t1 _ ⟨[.ref a], []⟩ [.ref a] [.ref a] _ _ rfl room en (hbind t1 (.ref a)) (.cons rfl .nil) (hsp _ only seq)) fun r s2 q => ?_
  match r, q with
  | .error e, q => exact (hCX _ e s2 q).elim
  | .ok .next, q => exact q.elim
  | .ok .brk, q => exact q.elim
  | .ok .cont, q => exact q.elim
  | .ok (.ret u), ⟨v, H2, os, bare, un, ok2, ru, qv⟩ =>
    have qv : v = .bl true := qv
    subst qv
    obtain rfl : u = Value.bool true := ru
    refine ⟨rfl, OldK.of_keep fun b o y => ?_, os, bare⟩
    cases z : scrH K a vs ns b with
    | none => exact un.keep b o y z (fun y => nomatch y) (by simp)
    | some u =>
      obtain ⟨rfl, _, rfl⟩ := at_ z
      obtain ⟨g1, _⟩ := ok b _ z
      obtain ⟨g2, _⟩ := ok2 b _ (un.frzs b _ _ z)
      cases g1.symm.trans y
      exact g2
theorem walk_ofG {l : PySem.W.OpenLaw} {n k : Nat} {q : Program} {loose : List Str} {XP : (Str → Option Value) → Heap → Prop} {YP : World → Heap → Prop} {d : DefRec} {K : Params → PySem.W.Frag} {CX : World → CXT} {sp : World → Sp} {x : Str}
    (hn : l.most = some n) (hn2 : n ≤ sizeLine) (hdf : d.params.defaults = []) (hr : Room k callerA) (hY : ∀ (w : World) (h : Heap), YP w h → (K w.params).In h)
    (F : ∀ (w : World) (mg : Str → Option Value) (fa : Addr) (h : Heap), (K w.params).In h → h.Ns mainGlobals mg → mg d.name = some (.ref fa) →
      ∃ fd : FuncData, (∀ (s : Shared) (u : Value), BindsTo s fd ⟨[u], []⟩ [(x, u)]) ∧ ∀ base : Heap, (K w.params).In base → base.Ns mainGlobals mg → FnG l.prog w (K w.params) mg base (CX w) k fa fd [x] (sp w))
    (hsp : ∀ (w : World) (H : Hp) (a : Addr) (ns : List Int), ns.length ≤ n → (∀ z ∈ ns, Builtin.Int.intBits z ≤ 1048576) → Only H → SqL (K w.params) H a (ns.map V.int) → sp w [.ref a] H (fun v _ => v = .bl true) fun _ _ _ => False)
    (hCX : ∀ (w : World) (H : Hp) (s : Shared) (e : Value) (s' : Shared), CX w [] H s (fun _ _ _ => False) e s' → False) : PySem.W.WalkO q loose XP YP l.row.toRowW d [] (fun f vs => PySem.call f vs) := by
  refine Att.attach_callB hn hdf fun w t0 t1 mg mb fa o pm cd doc a vs ns G Y ho hd hcd hmg hobj hints hlen hbits hg => ?_
  obtain ⟨fd, hb, hF⟩ := F w mg fa _ (hY w _ Y) G.T.g hmg
  exact law_callG (hY w _ Y) G.T.g G.T.b G.T.builtins G.T.nolimit hg hobj hints (Nat.le_trans hlen hn2) hr hF hb (fun H hO hS => hsp w H a ns hlen hbits hO hS) fun H e s' => hCX w H t1 e s'
end DL
/-! DL23: {}; o.f, o.g = x, y; isinstance; the own ==. -/
namespace DL
open PySem PySem.Spec PyProof.Rows L2

section
variable {X : Cx} {md : List Md} {pos pt : Pos} {o o2 e : Expr} {i : Nat} {f : Env → R M}
theorem pd_dic0 : PE X (.Dict [] [] pos) (tD X.K [] fun _ => .ok (.dic [])) := pe_dnewK.imp fun σ H Q h => by
  obtain ⟨ρ, S, m, sl, hm, k⟩ := h
  cases hm
  exact fun p hp => k _ _ [p] (Ex.new hp) (.dic (.of upd_same) rfl List.nodup_nil .nil) (new1 hp).fr
theorem unT_is {K : PySem.W.Frag} {H : Hp} {v : V} {m : M} {T : List Addr} {n : Nat} {ms : List M} (is : IsM K H v m T) (h : unT n m = .ok ms) : ∃ a vs, v = .ref a ∧ SqT K H a vs ∧ IsMs K H vs ms T ∧ ms.length = n := by
  unfold unT at h
  split at h
  · rename_i l
    split at h
    · rename_i hl
      cases h
      obtain ⟨rfl, is0⟩ := is.im_nil
      cases is0 with
      | tup hs r => exact ⟨_, _, rfl, hs, IsMs.ims r, by simpa using hl⟩
    · cases h
  · rename_i l
    split at h
    · rename_i hl
      cases h
      cases is with
      | tpm hs r => exact ⟨_, _, rfl, hs, r, hl⟩
    · cases h
  · cases h
/-- self.f, self.g = a pair -/
def fld2S (i : Nat) (C : Addr) (f1 f2 : Str) (f : Env → R M) : Env → R Fl := fun ρ => f ρ >>= fun m => unT 2 m >>= fun ms => match ms with
  | [x, y] => getV ρ i >>= fun n => fldS C f1 n x >>= fun n1 => fldS C f2 n1 y >>= fun n2 => .ok (.nx (ρ.set i (some n2)))
  | _ => .no
theorem psd_fld2 {C : Addr} {f1 f2 : Str} {p1 p2 : Pos} {kt : Nat} (hc : X.calm = true) (hi : md[i]? = some Md.loc ∨ md[i]? = some Md.io) (ho : PE X o (tP i [])) (ho2 : PE X o2 (tP i [])) (c : Cls X.K C) (n1 : NoAttr X.K C f1) (n2 : NoAttr X.K C f2) (hv : PE X e (tD X.K [] f))
    (hs : swapsWithSole [.Tuple [.Attribute o f1 p1, .Attribute o2 f2 p2] kt pt] e pos.line X.env = pure false := by rfl) (hw : swappedStores [.Tuple [.Attribute o f1 p1, .Attribute o2 f2 p2] kt pt] e X.env = pure none := by rfl)
    (h1 : (assignEach [.Tuple [.Attribute o f1 p1, .Attribute o2 f2 p2] kt pt] X.env).map (·.2) = [assign (.Tuple [.Attribute o f1 p1, .Attribute o2 f2 p2] kt pt) X.env] := by rfl)
    (h2 : (assignEach [.Attribute o f1 p1, .Attribute o2 f2 p2] X.env).map (·.2) = assign (.Attribute o f1 p1) X.env :: (assignEach [.Attribute o2 f2 p2] X.env).map (·.2) := by rfl)
    (h3 : (assignEach [.Attribute o2 f2 p2] X.env).map (·.2) = assign (.Attribute o2 f2 p2) X.env :: (assignEach [] X.env).map (·.2) := by rfl)
    (hn : (assignEach [.Attribute o f1 p1, .Attribute o2 f2 p2] X.env).length = 2 := by rfl) (hst : (assignEach [.Attribute o f1 p1, .Attribute o2 f2 p2] X.env).findIdx? (·.1) = none := by rfl) :
    PSD X md (.Assign [.Tuple [.Attribute o f1 p1, .Attribute o2 f2 p2] kt pt] e pos) (fld2S i C f1 f2 f) := fun r hK hmd => (ps_asg hv (pg_tup hc (pgs_cons (pg_fld ho) (pgs_cons (pg_fld ho2) pgs_nil h3) h2) hn hst) hs hw h1).imp fun D σ H h => by
  obtain ⟨ρ, S, g1, g2⟩ := h
  unfold fld2S at g2
  cases q : f ρ with
  | exc c l => rw [q] at g2; exact g2.elim
  | no => rw [q] at g2; exact g2.elim
  | ok m =>
    rw [q, R.ok_bind] at g2
    cases q1 : unT 2 m with
    | exc c l => rw [q1] at g2; exact g2.elim
    | no => rw [q1] at g2; exact g2.elim
    | ok ms =>
      rw [q1, R.ok_bind] at g2
      split at g2
      · rename_i x y
        cases q2 : getV ρ i with
        | exc c l => rw [q2] at g2; exact g2.elim
        | no => rw [q2] at g2; exact g2.elim
        | ok n =>
          rw [q2, R.ok_bind] at g2
          cases q3 : fldS C f1 n x with
          | exc c l => rw [q3] at g2; exact g2.elim
          | no => rw [q3] at g2; exact g2.elim
          | ok na =>
            rw [q3, R.ok_bind] at g2
            cases q4 : fldS C f2 na y with
            | exc c l => rw [q4] at g2; exact g2.elim
            | no => rw [q4] at g2; exact g2.elim
            | ok nb =>
              rw [q4] at g2
              refine ⟨ρ, S, m, hK ▸ g1.sl, q, fun vt H1 Tt ex ist frt => ?_⟩
              obtain ⟨a, vs, rfl, hq, iss, _⟩ := unT_is ist q1
              cases iss with
              | cons isx r1 =>
                cases r1 with
                | cons isy r2 =>
                  cases r2
                  rename_i vx Tx vy Ty
                  refine ⟨a, _, rfl, hq, rfl, vx, _, rfl, ?_⟩
                  obtain ⟨v, w, T, e1, e2, e3, e4, e5, e6⟩ := (g1.ex ex).place (pl := []) (n := n) (by rw [hmd]; exact hi) q2 rfl
                  cases e2
                  have nw : ∀ b ∈ Tx ++ (Ty ++ []), H b = none := fun b hb => frt.new.free b hb
                  cases n with
                  | obj C' fs =>
                    have q3 : (if C' = C then (if fs.length < 1000 then R.ok (.obj C' (putM f1 x fs)) else .no) else .no) = .ok na := q3
                    by_cases hC : C' = C
                    case neg => rw [if_neg hC] at q3; cases q3
                    subst hC
                    rw [if_pos rfl] at q3
                    split at q3
                    · rename_i l1
                      cases q3
                      have q4 : (if C' = C' then (if (putM f1 x fs).length < 1000 then R.ok (.obj C' (putM f2 y (putM f1 x fs))) else .no) else .no) = .ok nb := q4
                      rw [if_pos rfl] at q4
                      split at q4
                      · rename_i l2
                        cases q4
                        cases e3 with
                        | obj ha hn' hr =>
                          rename_i b dx vs T
                          have nT : ∀ z, z ∈ b :: T → z ∉ Tx ++ (Ty ++ []) := fun z hz hz2 => by
                            obtain ⟨oo, y⟩ := g1.there i z (e5 z hz).2
                            rw [nw z hz2] at y; cases y
                          have nd0 := List.nodup_cons.mp e4
                          have ndt := List.nodup_append.mp frt.nd
                          have nbx : b ∉ Tx := fun z => nT b List.mem_cons_self (List.mem_append_left _ z)
                          have nby : b ∉ Ty := fun z => nT b List.mem_cons_self (List.mem_append_right _ (List.mem_append_left _ z))
                          have lv : vs.length = fs.length := by simpa using congrArg List.length hn'
                          have isx' : IsM r.K H1 vx x Tx := hK ▸ isx
                          have isy' : IsM r.K H1 vy y Ty := hK ▸ isy
                          have n0 : NFo (.ins C' dx (putF f1 vx vs)) := fun _ _ z => nomatch z
                          -- the first store
                          obtain ⟨k1, T1, k2, k3, k4⟩ := putM_is (f := f1) isx' hn' hr (List.nodup_append.mpr ⟨nd0.2, ndt.1, fun z hz z2 hz2 e => (by subst e; exact nT z (List.mem_cons_of_mem _ hz) (List.mem_append_left _ hz2))⟩)
                          have nb1 : b ∉ T1 := fun z => (k4 b z).elim nd0.1 nbx
                          refine ⟨.ref b, .ref b, e1, rfl, b, C', dx, vs, rfl, ha, c, n1, by omega, vy, [], rfl, .ref b, .ref b, e1, rfl, b, C', dx, putF f1 vx vs, rfl, upd_same, c, n2, ?_, rfl, ?_⟩
                          · have := congrArg List.length k1
                            simp only [List.length_map] at this
                            omega
                          · obtain ⟨k5, T2, k6, k7, k8⟩ := putM_is (f := f2) isy' k1 k2 (List.nodup_append.mpr ⟨k3, (List.nodup_append.mp ndt.2.1).1, fun z hz z2 hz2 e => (by
                              subst e
                              rcases k4 z hz with w | w
                              · exact nT z (List.mem_cons_of_mem _ w) (List.mem_append_right _ (List.mem_append_left _ hz2))
                              · exact ndt.2.2 z w z (List.mem_append_left _ hz2) rfl)⟩)
                            have nb2 : b ∉ T2 := fun z => (k8 b z).elim nb1 nby
                            have fm1 := upd_fm (T := b :: T) (o' := .ins C' dx (putF f1 vx vs)) ha (fun _ z => nomatch z) (fun _ _ z => nomatch z) List.mem_cons_self
                            have fm2 := upd_fm (T := b :: T) (H := L2.upd H1 b (.ins C' dx (putF f1 vx vs))) (o' := .ins C' dx (putF f2 vy (putF f1 vx vs))) upd_same (fun _ z => nomatch z) (fun _ _ z => nomatch z) List.mem_cons_self
                            obtain ⟨S', q, _⟩ := e6 _ (.obj C' (putM f2 y (putM f1 x fs))) (b :: T2) (fm1.trans fm2) (.obj upd_same k5 ((k6.upd ha (fun _ z => nomatch z) (fun _ _ z => nomatch z) nb2).upd upd_same (fun _ z => nomatch z) (fun _ _ z => nomatch z) nb2)) (List.nodup_cons.mpr ⟨nb2, k7⟩) fun z hz => by
                              rcases List.mem_cons.mp hz with w | w
                              · exact .inl (w ▸ List.mem_cons_self)
                              · rcases k8 z w with w | w
                                · rcases k4 z w with w | w
                                  · exact .inl (List.mem_cons_of_mem _ w)
                                  · exact .inr (g1.newApart (nw z (List.mem_append_left _ w)))
                                · exact .inr (g1.newApart (nw z (List.mem_append_right _ (List.mem_append_left _ w))))
                            exact g2 σ _ S' q
                      · cases q4
                    · cases q3
                  | _ => cases q3
      · exact g2.elim
end
end DL
/-! DL24: isinstance; an own ==. -/
namespace DL
open PySem PySem.Spec PyProof.Rows L2

section
variable {X : Cx} {a b : Expr} {U : List Nat} {f : Env → R M} {p pos : Pos} {C : Addr}
/-! ### isinstance(x, C) -/
theorem kit_self {K : PySem.W.Frag} {C : Addr} : PySem.W.kitOne K (.ref C) (.ref C) = some true := if_pos (beq_self_eq_true _)
theorem kit_no {K : PySem.W.Frag} {C : Addr} {T : String} (h1 : (PySem.W.clsIn K C).isSome = true) (h2 : PySem.W.typeIn K (.ref C) = some (.type "type")) (h3 : PySem.W.subIn K (.type T) (.ref C) = some false) : PySem.W.kitOne K (.type T) (.ref C) = some false := by
  unfold PySem.W.kitOne PySem.W.kitCls
  rw [if_neg (by simp)]
  simp only [h1, h2, h3]
  simp
structure InsF (K : PySem.W.Frag) (C : Addr) : Prop where
  c : C8.InsC K C
  int : PySem.W.kitOne K (.type "int") (.ref C) = some false
  str : PySem.W.kitOne K (.type "str") (.ref C) = some false
  non : PySem.W.kitOne K (.type "NoneType") (.ref C) = some false
def isiM (C : Addr) : M → R M
  | .obj C' _ => if C' = C then .ok (mB true) else .no
  | .im (.int _) => .ok (mB false)
  | .im (.str _) => .ok (mB false)
  | .im .non => .ok (mB false)
  | _ => .no
theorem pd_isi {cn : Expr} (k : InsF X.K C) (hg : Gl X "isinstance") (hm : X.mg "isinstance" = none) (hv : bootBuiltins "isinstance" = some (.builtin "isinstance")) (ha : PE X a (tD X.K U f)) (hc : PE X cn (tC (.ref C)))
    (he : starEach [a, cn] X.env = (false, eval a X.env) :: starEach [cn] X.env := by rfl) (he2 : starEach [cn] X.env = (false, eval cn X.env) :: starEach [] X.env := by rfl) (hpl : (backTo pos (starEach [cn] X.env)).any (·.1) = false := by rfl) :
    PE X (.Call (.Name "isinstance" p) [a, cn] [] pos) (tD X.K [] fun ρ => f ρ >>= isiM C) := (pe_callB (call_isi.or (C8.call_isC k.c)) hg hm hv (pa_cons ha (pa_cons hc pa_nil he2) he) (by decide) (by decide) he hpl).imp fun σ H Q h => by
  obtain ⟨ρ, S, m, sl, hm, kk⟩ := h
  obtain ⟨x, h1, h2⟩ := R.bind_ok hm
  refine ⟨ρ, S, x, sl, h1, fun v H1 T e1 is1 f1 => ?_⟩
  show (fun xs H Q => _ ∨ _) _ _ _
  have kb : ∀ {q : Bool}, m = mB q → Q (.bl q) H1 := fun e => by
    subst e
    exact kk _ H1 [] e1 (.im .bl) Fr.nil
  cases x with
  | obj C' fs =>
    have h9 : (if C' = C then R.ok (mB true) else .no) = .ok m := h2
    split at h9
    · rename_i hC
      subst hC
      cases h9
      cases is1 with
      | obj ho _ _ => exact .inr ⟨_, _, _, rfl, ho, kb rfl⟩
    · cases h9
  | im i =>
    cases i with
    | int i =>
      cases h2
      cases is1.int
      exact .inl ⟨_, _, _, _, false, rfl, .own C, .base (.int i), k.int, kb rfl⟩
    | str i =>
      cases h2
      cases is1.str
      exact .inl ⟨_, _, _, _, false, rfl, .own C, .base (.str i), k.str, kb rfl⟩
    | non =>
      cases h2
      cases is1.non
      exact .inl ⟨_, _, _, _, false, rfl, .own C, .base .non, k.non, kb rfl⟩
    | _ => cases h2
  | _ => cases h2

/-! ### x == y by the class's own == -/
structure EqF (K : PySem.W.Frag) (C g : Addr) : Prop where
  find : PySem.W.findIn K (.ref C) "__eq__" = some (some (.ref g))
  fn : PySem.W.isFn K (.ref g) = true
  int : PySem.W.notFirst K C (.type "int") = true
def ownEq (C : Addr) (F : List M → R M) : M → M → R M := fun m n => match m, n with
  | .obj C1 l, .obj C2 k => if C1 = C ∧ C2 = C then F [.obj C1 l, .obj C2 k] >>= asB >>= fun r => .ok (mB r) else .no
  | .obj C1 l, .im (.int i) => if C1 = C then F [.obj C1 l, mI i] >>= asB >>= fun r => .ok (mB r) else .no
  | _, _ => .no
theorem o_own {CX : CXT} {n : Nat} {g : Addr} {fd : FuncData} {ps : List Str} {F : List M → R M} {E : XK} (k : EqF X.K C g) (Fn : FnOk X.prog X.w X.K X.mg X.base CX n g fd ps (spP X.K F)) (hr : Room n X.A) (hb : Binds X.K fd ps []) (hx : Passes CX X E) : OpR X (compareOp .Eq) (rDn X.K (ownEq C F)) := fun pins s σ H x y v u Q Iv rx ry h => by
  obtain ⟨m, n, S, T, r, h1, nS, h2, nT, h3, kk⟩ := h
  have fin : ∀ (l : List (Str × M)) (n' : M), IsM X.K H x (.obj C l) S → IsM X.K H y n' T → (F [.obj C l, n'] >>= asB >>= fun r => R.ok (mB r)) = .ok r → ∀ tb : Value, PySem.W.Looks (model X.prog X.w) s.heap (typeOf u) tb → PySem.W.notFirst X.K C tb = true → wpAny (model X.prog X.w) X.A (compareOp .Eq v u) (EP X pins σ Q) X.xe s := fun l n' i1 i2 h4 tb lk nf => by
    obtain ⟨z, h5, h6⟩ := R.bind_ok h4
    obtain ⟨w, h7, h8⟩ := R.bind_ok h5
    cases h6
    cases i1 with
    | obj ho hn hr' =>
      rename_i a dx vs T0
      cases (show v = Value.ref a from rx)
      obtain ⟨mA, J, _⟩ := ins_get Iv.hok ho
      obtain ⟨od, J, _⟩ := J.look
      obtain ⟨mF, hF⟩ := Iv.fr
      refine PySem.W.cmp_K (op := .Eq) (tb := tb) hr.units0 hF Iv.ok.mod.kin J lk nf k.find k.fn ?_
      have q : spP X.K F [.ref a, y] H (fun v3 H3 => v3 = .bl z ∧ Q (.bl z) H3) E := ⟨[.obj C l, n'], [a :: T0, T], w, .cons (.obj ho hn hr') nS (.cons i2 nT .nil), h7, fun v3 H3 T3 e3 is3 nw => by
        cases w with
        | im w =>
          cases w with
          | bl w =>
            cases h8
            exact ⟨is3.bl, kk (.bl z) H3 [] e3 (.im .bl) .nil⟩
          | _ => cases h8
        | _ => cases h8⟩
      refine wpAny_mono (run_fn (dvs := []) Fn hr hb .nil hx Iv (.cons rfl (.cons ry .nil) : Vals [V.ref a, y] [Value.ref a, u]) (by simpa using q)) (fun r2 s2 hq => ?_) fun _ _ e => e
      obtain ⟨v3, H3, I3, r3, e3, q3⟩ := hq
      subst e3
      obtain rfl : r2 = Value.bool z := r3
      exact ⟨.bl z, H3, I3, rfl, q3⟩
  unfold ownEq at h3
  split at h3
  · rename_i C1 l C2 l2
    split at h3
    · rename_i hC
      obtain ⟨rfl, rfl⟩ := hC
      have h2' := h2
      cases h2' with
      | @obj a2 _ dx2 vs2 _ T2 ho2 _ _ =>
        obtain ⟨mB2, J2, _⟩ := ins_get Iv.hok ho2
        obtain ⟨od2, J2, _⟩ := J2.look
        cases (show u = Value.ref a2 from ry)
        exact fin l _ h1 h2 h3 _ J2.type (by simp [PySem.W.notFirst])
    · cases h3
  · rename_i C1 l i
    split at h3
    · rename_i hC
      subst hC
      have ey := h2.int
      subst ey
      obtain ⟨t, rfl⟩ := ry
      exact fin l _ h1 h2 h3 (.type "int") (PySem.W.Looks.of_pure rfl) k.int
    · cases h3
  · cases h3
end
end DL
/-! DL25: comprehensions whose items change slots. -/
namespace DL
open PySem PySem.Spec PyProof.Rows L2

theorem Rel.reslot {r : Rn} {H : Hp} {σ σ' : L2.St} {ρ : Env} {S : Nat → List Addr} {W : List Nat} (h : Rel r H σ (wipeE W ρ) S) (hl : σ'.length = σ.length) (hσ : ∀ (j : Nat), j ∉ W → σ'[j]? = σ[j]?) (hW : ∀ (j : Nat), W.contains j = true → r.md[j]? ≠ some Md.io ∧ r.md[j]? ≠ some Md.ro) : Rel r H σ' (wipeE W ρ) S := by
  have out : ∀ (j : Nat), r.md[j]? = some Md.io ∨ r.md[j]? = some Md.ro → j ∉ W := fun j hj hm => by
    obtain ⟨a, b⟩ := hW j (by simpa using hm)
    rcases hj with z | z
    · exact a z
    · exact b z
  refine ⟨⟨hl.trans h.sl.len, h.sl.nd, h.sl.out, fun i m q => ?_⟩, h.mdl, h.fm, h.there, h.sep, h.own, fun i hi => ?_, fun i hi => ?_, h.bnf⟩
  · obtain ⟨v, a, b⟩ := h.sl.at_ i m q
    obtain ⟨z, _⟩ := wipeE_get q
    exact ⟨v, by rw [hσ i (by simpa using z)]; exact a, b⟩
  · rw [hσ i (out i (.inl hi))]
    exact h.io i hi
  · rw [hσ i (out i (.inr hi))]
    exact h.ro i hi
theorem Rel.wiped {r : Rn} {H : Hp} {σ : L2.St} {ρ : Env} {S : Nat → List Addr} (h : Rel r H σ ρ S) (W : List Nat) (hW : ∀ (j : Nat), W.contains j = true → r.md[j]? ≠ some Md.io ∧ r.md[j]? ≠ some Md.ro) : Rel r H σ (wipeE W ρ) (wipeS W S) := by
  have no : ∀ (i : Nat) (a : Addr), a ∈ wipeS W S i → a ∈ S i := fun i a ha => (mem_wipeS ha).2
  refine ⟨⟨by rw [wipeE_length]; exact h.sl.len, fun i => ?_, fun i hi => ?_, fun i m q => ?_⟩, by rw [wipeE_length]; exact h.mdl, h.fm, fun i a ha => h.there i a (no i a ha), fun i j a ij ha hb => h.sep i j a ij (no i a ha) (no j a hb), fun i hi a ha => h.own i hi a (no i a ha), h.io, fun i hi => ?_, h.bnf⟩
  · unfold wipeS
    split
    · exact List.nodup_nil
    · exact h.sl.nd i
  · rw [wipeE_length] at hi
    unfold wipeS
    split
    · rfl
    · exact h.sl.out i hi
  · obtain ⟨z, e⟩ := wipeE_get q
    obtain ⟨v, a, b⟩ := h.sl.at_ i m e
    refine ⟨v, a, ?_⟩
    unfold wipeS
    rw [if_neg (by rw [z]; exact Bool.false_ne_true)]
    exact b
  · have z : W.contains i = false := by
      cases q : W.contains i with
      | false => rfl
      | true => exact absurd hi (hW i q).2
    obtain ⟨a, b, c⟩ := h.ro i hi
    refine ⟨a, (wipeE_other z).trans b, ?_⟩
    unfold wipeS
    rw [if_neg (by rw [z]; exact Bool.false_ne_true)]
    exact c
def lcXR (g : M → Env → R Env) (ft : Env → R Bool) (fe : Env → R (M × Env)) (W : List Nat) : List M → Env → R (List M × Env)
  | [], ρ => .ok ([], ρ)
  | m :: ms, ρ => g m ρ >>= fun ρ1 => ft ρ1 >>= fun b => if b then fe ρ1 >>= fun x => lcXR g ft fe W ms (wipeE W x.2) >>= fun y => .ok (x.1 :: y.1, y.2) else lcXR g ft fe W ms (wipeE W ρ1)
def lcX (W : List Nat) (fi : Env → R (List M × Env)) (g : M → Env → R Env) (ft : Env → R Bool) (fe : Env → R (M × Env)) : Env → R (M × Env) := fun ρ => fi ρ >>= fun x => if x.1.length ≤ sizeLine then lcXR g ft fe W x.1 (wipeE W x.2) >>= fun y => .ok (.lst y.1, y.2) else .no
def aX (K : PySem.W.Frag) (md : List Md) (f : Env → R (M × Env)) : TE := fun σ H Q => ∃ r : Rn, r.K = K ∧ r.md = md ∧ tX r f σ H Q
theorem PXD.any {X : Cx} {md : List Md} {e : Expr} {f : Env → R (M × Env)} (h : PXD X md e f) : PE X e (aX X.K md f) := ⟨fun pins s σ H Q Iv q => by
  obtain ⟨r, h1, h2, q⟩ := q
  exact (h r h1 h2).run pins s σ H Q Iv q⟩
theorem wipeE_idem (W : List Nat) (ρ : Env) : wipeE W (wipeE W ρ) = wipeE W ρ := List.ext_getElem? fun i => by
  cases h : W.contains i with
  | false => exact wipeE_other h
  | true =>
    have e : ∀ ρ : Env, i < ρ.length → (wipeE W ρ)[i]? = some none := fun ρ hl => by
      unfold wipeE
      rw [List.getElem?_map, List.getElem?_range hl]
      simp only [Option.map_some]
      rw [h]
      rfl
    by_cases hl : i < ρ.length
    · rw [e ρ hl, e _ (by rw [wipeE_length]; exact hl)]
    · rw [List.getElem?_eq_none (by rw [wipeE_length, wipeE_length]; omega), List.getElem?_eq_none (by rw [wipeE_length]; omega)]
/-- an object that no slot knows changes -/
theorem Rel.off {r : Rn} {H : Hp} {σ : L2.St} {ρ : Env} {S : Nat → List Addr} (h : Rel r H σ ρ S) {a : Addr} {o o' : HO} (ha : H a = some o) (n1 : ∀ xs, o ≠ .tup xs) (n2 : NFo o) (n3 : NFo o') (ow : r.Own a) (no : ∀ (j : Nat), a ∉ S j) : Rel r (L2.upd H a o') σ ρ S := by
  refine ⟨⟨h.sl.len, h.sl.nd, h.sl.out, fun i m q => ?_⟩, h.mdl, ⟨fun b u e n => ?_, h.fm.tk.trans (upd_fm (T := [a]) ha n1 n2 (by simp) n3).tk⟩, fun i b hb => ?_, h.sep, h.own, h.io, h.ro, h.bnf⟩
  · obtain ⟨v, x, y⟩ := h.sl.at_ i m q
    exact ⟨v, x, y.upd ha n1 n2 (no i) n3⟩
  · rw [upd_ne (show b ≠ a from fun z => ?_)]
    · exact h.fm.keep b u e n
    · subst z
      rcases ow with z | z
      · rw [e] at z; cases z
      · exact n z
  · obtain ⟨u, e⟩ := h.there i b hb
    exact ⟨u, by rw [upd_ne (show b ≠ a from fun z => no i (z ▸ hb))]; exact e⟩
theorem imp_lcX {r : Rn} {md' : List Md} {vs : List Nat} {U : List Nat} {fi : Env → R (List M × Env)} {gt : M → Env → R Env} {ft : Env → R Bool} {fe : Env → R (M × Env)} {σ : L2.St} {H : Hp} {Q : VK} (c : Cmp r.md md') (hU : ∀ j ∈ U, ¬ (md'[j]? = some Md.loc ∨ md'[j]? = some Md.io)) (hL : ∀ (i : Nat), md'[i]? ≠ some Md.loc)
    (hW : ∀ (i : Nat), md'[i]? = some Md.any → vs.contains i = true) (hW2 : ∀ (i : Nat), vs.contains i = true → md'[i]? = some Md.any ∧ (r.md[i]? = some Md.any ∨ r.md[i]? = some Md.loc)) (h : tX r (lcX vs fi gt ft fe) σ H Q) :
    tLc (tIX r U fi) (aG r.K md' false gt) (tDT r.K ft) (aX r.K md' fe) vs σ H Q := by
  obtain ⟨ρ, S, m, ρ', h1, h2, k⟩ := h
  obtain ⟨⟨xs, ρ1⟩, h3, h4⟩ := R.bind_ok h2
  have h5 : (if xs.length ≤ sizeLine then lcXR gt ft fe vs xs (wipeE vs ρ1) >>= fun y => R.ok (M.lst y.1, y.2) else .no) = .ok (m, ρ') := h4
  split at h5
  · rename_i hlen
    obtain ⟨⟨out, ρe⟩, h6, h7⟩ := R.bind_ok h5
    cases h7
    refine ⟨ρ, S, xs, ρ1, h1, h3, fun J H1 S1 fp g1 tk1 sq hfp Dl hD => ?_⟩
    have wNo : ∀ (j : Nat), vs.contains j = true → r.md[j]? ≠ some Md.io ∧ r.md[j]? ≠ some Md.ro := fun j hj => by
      rcases (hW2 j hj).2 with z | z <;> rw [z] <;> exact ⟨by decide, by decide⟩
    have wNo' : ∀ (j : Nat), vs.contains j = true → md'[j]? ≠ some Md.io ∧ md'[j]? ≠ some Md.ro := fun j hj => by
      rw [(hW2 j hj).1]; exact ⟨by decide, by decide⟩
    have lw : (L2.wipe σ vs).length = σ.length := wipe_length σ vs
    -- the run of the items
    have g2 := (g1.wiped vs wNo).reslot (σ' := L2.wipe σ vs) lw (fun j hj => wipe_out hj) wNo
    have g3 := g2.fz c
    obtain ⟨G, Y, wk, hG, hY⟩ := sq.wk
    have hfpB : ∀ a ∈ fp, ¬ (r.fz md' H1 (L2.wipe σ vs) (wipeE vs ρ1) (wipeS vs S1)).Own a := fun a ha o => by
      rcases o with z | z
      · obtain ⟨⟨o, q⟩, _⟩ := hfp a ha
        have z : H1 a = none := z
        rw [z] at q; cases q
      · obtain ⟨j, q1, q2⟩ := mem_fzB.mp z
        have q3 := (mem_wipeS q2).2
        exact hU j ((hfp a ha).2 j q3 (g1.own j (c.own q1) a q3)) q1
    have g4 : ∀ {H' : Hp} {σ' : L2.St} {ρi : Env} {Si : Nat → List Addr}, Rel (r.fz md' H1 (L2.wipe σ vs) (wipeE vs ρ1) (wipeS vs S1)) H' σ' ρi Si → Rel r H' σ' (wipeE vs ρi) (wipeS vs Si) := fun z => g2.thaw c hW (fun i hi => (hW2 i hi).2) z
    obtain ⟨r1, hr1⟩ : ∃ r1, r1 = r.fz md' H1 (L2.wipe σ vs) (wipeE vs ρ1) (wipeS vs S1) := ⟨_, rfl⟩
    rw [← hr1] at g3 hfpB
    have k1 : r1.K = r.K := by rw [hr1]; rfl
    have m1 : r1.md = md' := by rw [hr1]; rfl
    have b1 : r1.H0 = H1 := by rw [hr1]; rfl
    have cc : Cmp r1.md md' := by rw [m1]; exact ⟨rfl, fun i x hx => .inr (.inl hx)⟩
    have wc : ∀ (i : Nat), vs.contains i = true → r1.md[i]? = some Md.any ∨ r1.md[i]? = some Md.loc := fun i hi => by rw [m1]; exact .inl (hW2 i hi).1
    have wNo1 : ∀ (j : Nat), vs.contains j = true → r1.md[j]? ≠ some Md.io ∧ r1.md[j]? ≠ some Md.ro := fun j hj => by rw [m1]; exact wNo' j hj
    have g5 : ∀ {H' : Hp} {σ' : L2.St} {ρi : Env} {Si : Nat → List Addr}, Rel r1 H' σ' ρi Si → Rel r H' σ' (wipeE vs ρi) (wipeS vs Si) := fun z => g4 (hr1 ▸ z)
    clear g4
    refine lc_it wk (fun i H' => ∃ ρi Si done Td todo vs', Rel r1 H' (L2.wipe σ vs) (wipeE vs ρi) Si ∧ H' Dl = some (.lst vs') ∧ vs'.length ≤ i ∧ IsMs r1.K H' vs' done Td ∧ (Dl :: Td).Nodup ∧ (∀ a ∈ Dl :: Td, r1.Own a ∧ ∀ (j : Nat), a ∉ Si j) ∧ lcXR gt ft fe vs (xs.drop i) (wipeE vs ρi) = .ok (todo, ρe) ∧ done ++ todo = out) ?_ (fun i H' _ p => ?_) (fun i x H' H2 hi' p hy => ?_) (fun H' p => ?_)
    · have ex : Ex H1 (L2.upd H1 Dl (.lst [])) := Ex.new hD
      refine ⟨ρ1, wipeS vs S1, [], [], out, [], g3.ex ex, upd_same, Nat.le_refl _, .nil, by simp, fun a ha => ?_, h6, rfl⟩
      rw [List.mem_singleton.mp ha]
      exact g3.newApart hD
    · obtain ⟨ρi, Si, done, Td, todo, vs', p1, _⟩ := p
      have fm := p1.fm
      rw [b1] at fm
      refine hG H' (fun a ha o ho => fm.keep a o ho fun z => hfpB a ha (.inr z)) fm.tk
    · obtain ⟨ρi, Si, done, Td, todo, vs', p1, p2, p3, p4, p5, p6, p7, p8⟩ := p
      have fm := p1.fm
      rw [b1] at fm
      obtain ⟨e2, m0, T1, y1, y2, y3, y4⟩ := hY i H' x H2 hi' (fun a ha o ho => fm.keep a o ho fun z => hfpB a ha (.inr z)) fm.tk hy
      have y1' : xs[i] = m0 := by
        rw [List.getElem?_eq_getElem hi'] at y1
        exact Option.some.inj y1
      rw [List.drop_eq_getElem_cons hi', y1'] at p7
      obtain ⟨ρ2, q3, q4⟩ := R.bind_ok (show (gt m0 (wipeE vs ρi) >>= fun ρ1 => ft ρ1 >>= fun b => if b then fe ρ1 >>= fun x => lcXR gt ft fe vs (xs.drop (i + 1)) (wipeE vs x.2) >>= fun y => .ok (x.1 :: y.1, y.2) else lcXR gt ft fe vs (xs.drop (i + 1)) (wipeE vs ρ1)) = .ok (todo, ρe) from p7)
      obtain ⟨b, q5, q6⟩ := R.bind_ok q4
      have p1' := p1.ex e2
      have pf := p1'.fz cc
      -- what the comprehension has made is not of an item's run
      have nB : ∀ a ∈ Dl :: Td, a ∉ fzB md' Si := fun a ha hb => by
        obtain ⟨j, _, z⟩ := mem_fzB.mp hb
        exact (p6 a ha).2 j z
      have is2 : ∀ a ∈ Dl :: Td, ∃ o, H2 a = some o := fun a ha => by
        rcases List.mem_cons.mp ha with z | z
        · exact ⟨_, z ▸ e2 _ _ p2⟩
        · obtain ⟨o, y⟩ := p4.there a z
          exact ⟨o, e2 a o y⟩
      have nO : ∀ a ∈ Dl :: Td, ¬ (r1.fz md' H2 (L2.wipe σ vs) (wipeE vs ρi) Si).Own a := fun a ha o => by
        rcases o with z | z
        · obtain ⟨u, y⟩ := is2 a ha
          have z : H2 a = none := z
          rw [y] at z; cases z
        · exact nB a ha z
      refine ⟨r1.fz md' H2 (L2.wipe σ vs) (wipeE vs ρi) Si, k1, rfl, wipeE vs ρi, Si, m0, T1, ρ2, pf, (by rw [show (r1.fz md' H2 (L2.wipe σ vs) (wipeE vs ρi) Si).K = r.K from k1]; exact y2), ⟨y3, fun a ha => ?_⟩, q3, fun σ2 S2 z1 _ => ?_⟩
      · show ¬ (r1.fz md' H2 (L2.wipe σ vs) (wipeE vs ρi) Si).Own a
        intro o
        rcases o with z | z
        · obtain ⟨⟨o, q⟩, _⟩ := hfp a (y4 a ha)
          have z : H2 a = none := z
          have := e2 a _ (fm.keep a o q fun z => hfpB a (y4 a ha) (.inr z))
          rw [z] at this; cases this
        · exact hfpB a (y4 a ha) (fz_up p1' cc (.inr z))
      · -- the slots that the target sets are the comprehension's own
        have len2 : σ2.length = (L2.wipe σ vs).length := by
          have a := z1.sl.len
          have b := z1.mdl
          have b2 := pf.mdl
          have a2 := pf.sl.len
          rw [a, ← b, b2, ← a2]
        have same : ∀ (j : Nat), j ∉ vs → σ2[j]? = (L2.wipe σ vs)[j]? := fun j hj => by
          cases q : md'[j]? with
          | none =>
            have hl : md'.length ≤ j := List.getElem?_eq_none_iff.mp q
            have a : md'.length = ρ2.length := z1.mdl
            have a2 := z1.sl.len
            rw [List.getElem?_eq_none (by omega), List.getElem?_eq_none (by omega)]
          | some d =>
            cases d with
            | loc => exact absurd q (hL j)
            | any => exact absurd (by simpa using hW j q) hj
            | io => exact z1.io j q
            | ro => exact (z1.ro j q).1
        -- what is not of an item's run is in no slot behind it
        have apart : ∀ {H' : Hp} {σ' : L2.St} {ρ' : Env} {S' : Nat → List Addr}, Rel (r1.fz md' H2 (L2.wipe σ vs) (wipeE vs ρi) Si) H' σ' ρ' S' → ∀ a ∈ Dl :: Td, ∀ (j : Nat), a ∉ wipeS vs S' j := fun {H' σ' ρ' S'} z a ha j hj => by
          obtain ⟨w1, w2⟩ := mem_wipeS hj
          cases q : md'[j]? with
          | none =>
            have hl : md'.length ≤ j := List.getElem?_eq_none_iff.mp q
            have a1 : md'.length = ρ'.length := z.mdl
            rw [z.sl.out j (by omega)] at w2
            cases w2
          | some d =>
            cases d with
            | loc => exact hL j q
            | any =>
              rw [hW j q] at w1
              cases w1
            | io => exact nO a ha (z.own j (.inr q) a w2)
            | ro =>
              rw [(z.ro j q).2.2] at w2
              exact (p6 a ha).2 j w2
        have thaw : ∀ {H' : Hp} {σ' : L2.St} {ρ' : Env} {S' : Nat → List Addr}, Rel (r1.fz md' H2 (L2.wipe σ vs) (wipeE vs ρi) Si) H' σ' ρ' S' → σ'.length = (L2.wipe σ vs).length → (∀ (j : Nat), j ∉ vs → σ'[j]? = (L2.wipe σ vs)[j]?) → Rel r1 H' (L2.wipe σ vs) (wipeE vs ρ') (wipeS vs S') := fun z hl hs =>
          (p1'.thaw cc hW wc z).reslot hl.symm (fun j hj => (hs j hj).symm) wNo1
        refine ⟨?_, ρ2, S2, b, (show (r1.fz md' H2 (L2.wipe σ vs) (wipeE vs ρi) Si).K = r.K from k1) ▸ z1.sl, q5, fun H3 e3 => ?_⟩
        · rw [wipe_eq len2 same]
          exact wipe_eq (wipe_length σ vs) fun j hj => wipe_out hj
        · have z3 := z1.ex e3
          dsimp only
          cases b with
          | true =>
            rw [if_pos rfl] at q6 ⊢
            obtain ⟨⟨v, ρ3⟩, q7, q8⟩ := R.bind_ok q6
            obtain ⟨⟨rest, ρr⟩, q9, q10⟩ := R.bind_ok q8
            cases q10
            refine ⟨r1.fz md' H2 (L2.wipe σ vs) (wipeE vs ρi) Si, k1, rfl, ρ2, S2, v, ρ3, z3, q7, fun y H4 S4 Ty z4 _ isy nd4 own4 => ?_⟩
            have f4 : Fm (fzB md' Si) H2 H4 := z4.fm
            have d4 : H4 Dl = some (.lst vs') := f4.keep _ _ (e2 _ _ p2) (nB Dl List.mem_cons_self)
            have tdY : ∀ a ∈ Dl :: Td, a ∉ Ty := fun a ha hb => nO a ha (own4 a hb).1
            have nd := List.nodup_cons.mp p5
            have isy : IsM r1.K H4 y v Ty := isy
            have lenI := p4.length
            refine ⟨vs', d4, ?_, ρ3, wipeS vs S4, done ++ [v], Td ++ Ty, rest, vs' ++ [y], ?_, upd_same, by simp; omega, ?_, ?_, fun a ha => ?_, q9, by rw [List.append_assoc]; exact p8⟩
            · omega
            · exact (thaw z4 len2 same).off d4 (fun _ z => nomatch z) (fun _ _ z => nomatch z) (fun _ _ z => nomatch z) (p6 Dl List.mem_cons_self).1 (apart z4 Dl List.mem_cons_self)
            · refine IsMs.append (((p4.ex e2).fm f4 fun a ha => nB a (List.mem_cons_of_mem _ ha)).upd d4 (fun _ z => nomatch z) (fun _ _ z => nomatch z) nd.1) ?_
              have := IsMs.cons (isy.upd (o' := .lst (vs' ++ [y])) d4 (fun _ z => nomatch z) (fun _ _ z => nomatch z) (tdY Dl List.mem_cons_self)) .nil
              simpa using this
            · refine List.nodup_cons.mpr ⟨fun z => ?_, List.nodup_append.mpr ⟨nd.2, nd4, fun a ha b hb e => ?_⟩⟩
              · rcases List.mem_append.mp z with z | z
                · exact nd.1 z
                · exact tdY Dl List.mem_cons_self z
              · subst e
                exact tdY a (List.mem_cons_of_mem _ ha) hb
            · rcases List.mem_cons.mp ha with z | z
              · exact ⟨z ▸ (p6 Dl List.mem_cons_self).1, z ▸ apart z4 Dl List.mem_cons_self⟩
              · rcases List.mem_append.mp z with z | z
                · exact ⟨(p6 a (List.mem_cons_of_mem _ z)).1, apart z4 a (List.mem_cons_of_mem _ z)⟩
                · exact ⟨fz_up p1' cc (own4 a z).1, fun j hj => (own4 a z).2 j (mem_wipeS hj).2⟩
          | false =>
            rw [if_neg Bool.false_ne_true] at q6 ⊢
            exact ⟨ρ2, wipeS vs S2, done, Td, todo, vs', thaw z3 len2 same, e3 _ _ (e2 _ _ p2), by omega, (p4.ex e2).ex e3, p5, fun a ha => ⟨(p6 a ha).1, apart z3 a ha⟩, q6, p8⟩
    · obtain ⟨ρi, Si, done, Td, todo, vs', p1, p2, p3, p4, p5, p6, p7, p8⟩ := p
      rw [List.drop_length] at p7
      cases p7
      rw [List.append_nil] at p8
      subst p8
      have z := (g5 p1).reslot (σ' := σ) lw.symm (fun j hj => (wipe_out hj).symm) wNo
      rw [wipeE_idem] at z
      have fm := p1.fm
      rw [b1] at fm
      refine k (.ref Dl) H' _ (Dl :: Td) z (tk1.trans fm.tk) (.lst p2 (k1 ▸ p4)) p5 fun a ha => ⟨?_, fun j hj => (p6 a ha).2 j (mem_wipeS hj).2⟩
      have o := (p6 a ha).1
      rw [hr1] at o
      exact fz_up g2 c o
  · cases h5
section
variable {X : Cx} {md : List Md} {pos : Pos} {elt tg iter : Expr} {ifs : List Expr} {scope : Scope} {own : List (Str × Nat)} {U : List Nat}
/-- [e for x in xs if ..], e one that changes slots -/
theorem pxd_lc (md' : List Md) {fi : Env → R (List M × Env)} {gt : M → Env → R Env} {ft : Env → R Bool} {fe : Env → R (M × Env)} (hc : X.calm = true) (hN : X.N.Nodup) (ok : BlkOk X.N X.env.scope scope own) (c : Cmp md md')
    (hU : ∀ j ∈ U, ¬ (md'[j]? = some Md.loc ∨ md'[j]? = some Md.io)) (hL : ∀ (i : Nat), md'[i]? ≠ some Md.loc) (hW : ∀ (i : Nat), md'[i]? = some Md.any → (own.map (·.2)).contains i = true) (hW2 : ∀ (i : Nat), (own.map (·.2)).contains i = true → md'[i]? = some Md.any ∧ (md[i]? = some Md.any ∨ md[i]? = some Md.loc)) (hi : PIX X md U tg iter fi)
    (hg : ∀ (s : Shared) (H : Hp) (C : Addr) (cl : List (Str × Addr)) (fp : List Addr), PGD (X.blk s H scope (compEnvC scope cl C X.env) fp) md' false tg gt) (ht : ∀ (s : Shared) (H : Hp) (C : Addr) (cl : List (Str × Addr)) (fp : List Addr), PTs (X.blk s H scope (compEnvC scope cl C X.env) fp) ifs (tDT X.K ft))
    (he : ∀ (s : Shared) (H : Hp) (C : Addr) (cl : List (Str × Addr)) (fp : List Addr), PXD (X.blk s H scope (compEnvC scope cl C X.env) fp) md' elt fe) (hs : ∀ x, foldedSetIterable iter X.env x = pure x := by intro _; rfl) :
    PXD X md (.ListComp elt [⟨tg, iter, ifs, 0⟩] scope pos) (lcX (own.map (·.2)) fi gt ft fe) := fun r hK hmd => (pe_lc hc hN (hi r hK hmd) ok (fun s H C cl fp => (hg s H C cl fp).any) ht (fun s H C cl fp => (he s H C cl fp).any) hs).imp fun σ H Q h =>
  hK ▸ imp_lcX (by rw [hmd]; exact c) hU hL hW (by rw [hmd]; exact hW2) h
end
end DL
/-! DL26: y = [e for ..], e one that changes slots; globals; small facts for the printed terms. -/
namespace DL
open PySem PySem.Spec PyProof.Rows L2

section
variable {X : Cx} {md : List Md} {pos spos : Pos} {elt tg iter : Expr} {ifs : List Expr} {scope : Scope} {own : List (Str × Nat)} {U : List Nat}
theorem psxd_setLc (md' : List Md) {j : Nat} {y : Str} {py : Pos} {fi : Env → R (List M × Env)} {gt : M → Env → R Env} {ft : Env → R Bool} {fe : Env → R (M × Env)} (hc : X.calm = true) (hN : X.N.Nodup) (hy : X.N[j]? = some y) (hyl : X.env.scope.names.lookup y = some .local) (hm : md[j]? = some Md.loc ∨ md[j]? = some Md.any)
    (hsw : swapsWith (.ListComp elt [⟨tg, iter, ifs, 0⟩] scope pos) (some (.Name y py)) spos.line X.env = pure true) (ok : BlkOk X.N X.env.scope scope own) (c : Cmp md md')
    (hU : ∀ j ∈ U, ¬ (md'[j]? = some Md.loc ∨ md'[j]? = some Md.io)) (hL : ∀ (i : Nat), md'[i]? ≠ some Md.loc) (hW : ∀ (i : Nat), md'[i]? = some Md.any → (own.map (·.2)).contains i = true) (hW2 : ∀ (i : Nat), (own.map (·.2)).contains i = true → md'[i]? = some Md.any ∧ (md[i]? = some Md.any ∨ md[i]? = some Md.loc)) (hi : PIX X md U tg iter fi)
    (hg : ∀ (s : Shared) (H : Hp) (C : Addr) (cl : List (Str × Addr)) (fp : List Addr), PGD (X.blk s H scope (compEnvC scope cl C X.env) fp) md' false tg gt) (ht : ∀ (s : Shared) (H : Hp) (C : Addr) (cl : List (Str × Addr)) (fp : List Addr), PTs (X.blk s H scope (compEnvC scope cl C X.env) fp) ifs (tDT X.K ft))
    (he : ∀ (s : Shared) (H : Hp) (C : Addr) (cl : List (Str × Addr)) (fp : List Addr), PXD (X.blk s H scope (compEnvC scope cl C X.env) fp) md' elt fe) (hs : ∀ x, foldedSetIterable iter X.env x = pure x := by intro _; rfl) :
    PSD X md (.Assign [.Name y py] (.ListComp elt [⟨tg, iter, ifs, 0⟩] scope pos) spos) (setX j (lcX (own.map (·.2)) fi gt ft fe)) := fun r hK hmd => (ps_setLc hc hN hy hyl hsw (hi r hK hmd) ok (fun s H C cl fp => (hg s H C cl fp).any) ht (fun s H C cl fp => (he s H C cl fp).any) hs).imp fun D σ H h => by
  obtain ⟨ρ, S, h1, h2⟩ := h
  unfold setX at h2
  cases q : lcX (own.map (·.2)) fi gt ft fe ρ with
  | exc c l => rw [q] at h2; exact h2.elim
  | no => rw [q] at h2; exact h2.elim
  | ok x =>
    rw [q] at h2
    exact hK ▸ imp_lcX (r := r) (by rw [hmd]; exact c) hU hL hW (by rw [hmd]; exact hW2) ⟨ρ, S, x.1, x.2, h1, q, fun v H2 S2 T h3 _ is nd ow => h2 _ _ _ (h3.put (by rw [hmd]; exact hm) is nd (fun _ a ha => (ow a ha).1) fun a ha _ j _ => (ow a ha).2 j)⟩
/-- the operation in place is the operation -/
theorem pip_of {op : Operator} {g : M → M → R M} (_ : X.calm = X.calm) (h : OpR X (inplaceOp op) (rD X.K g)) : PIp X op (rD X.K g) := fun pins s σ H x y v u Q Iv rx ry q => h pins s σ H x y v u Q Iv rx ry q
/-- a class as a value -/
theorem pc_cls {x : Str} {C : Addr} {pos : Pos} (hg : Gl X x) (hm : X.mg x = some (.ref C)) (hd : (x == ("__debug__" : Str)) = false := by decide) : PE X (.Name x pos) (tC (.ref C)) := pe_glob (v := .ref C) hg hm rfl hd
end
theorem par_by {md : List Md} {n : Nat} (h : ∀ i, i < n → 0 < i → ¬ (md[i]? = some Md.loc ∨ md[i]? = some Md.io)) : ∀ i, 0 < i → i < n → ¬ (md[i]? = some Md.loc ∨ md[i]? = some Md.io) := fun i a b => h i b a
def anyB (md' : List Md) (vs : List Nat) : Bool := (List.range md'.length).all fun i => !(md'[i]? == some .any) || vs.contains i
theorem any_by {md' : List Md} {vs : List Nat} (h : anyB md' vs = true) : ∀ (i : Nat), md'[i]? = some Md.any → vs.contains i = true := fun i hi => by
  unfold anyB at h
  rw [List.all_eq_true] at h
  have hl := (List.getElem?_eq_some_iff.mp hi).1
  have := h i (List.mem_range.mpr hl)
  rw [hi] at this
  simpa using this
def ownB (md md' : List Md) (vs : List Nat) : Bool := vs.all fun i => md'[i]? == some .any && (md[i]? == some .any || md[i]? == some .loc)
theorem own_by {md md' : List Md} {vs : List Nat} (h : ownB md md' vs = true) : ∀ (i : Nat), vs.contains i = true → md'[i]? = some Md.any ∧ (md[i]? = some Md.any ∨ md[i]? = some Md.loc) := fun i hi => by
  unfold ownB at h
  rw [List.all_eq_true] at h
  have := h i (by simpa using hi)
  simpa using this
def wipB (md : List Md) (vs : List Nat) : Bool := vs.all fun i => md[i]? == some .any || md[i]? == some .loc
theorem wip_by {md : List Md} {vs : List Nat} (h : wipB md vs = true) : ∀ (i : Nat), vs.contains i = true → md[i]? = some Md.any ∨ md[i]? = some Md.loc := fun i hi => by
  unfold wipB at h
  rw [List.all_eq_true] at h
  have := h i (by simpa using hi)
  simpa using this
def noB (md' : List Md) (m : Md) : Bool := md'.all fun x => !(x == m)
theorem no_by {md' : List Md} {m : Md} (h : noB md' m = true) : ∀ (i : Nat), md'[i]? ≠ some m := fun i hi => by
  unfold noB at h
  rw [List.all_eq_true] at h
  have := h m (List.mem_of_getElem? hi)
  simp at this
end DL
/-! DL27: defs, methods and classes as facts with their plain functions. -/
namespace DL
open PySem PySem.Spec PyProof.Rows L2

section
variable (P : Program) (w : World) (K : PySem.W.Frag) (mg : Str → Option Value) (base : Heap)
/-- the def x, its promise by the plain function F -/
structure GfP (k : Nat) (x : Str) (F : List M → R M) : Prop where
  ex : ∃ (f : Addr) (fd : FuncData) (ps : List Str), FnOk P w K mg base CX0 k f fd ps (spP K F) ∧ mg x = some (.ref f) ∧ PySem.W.keepIn K (.ref f) = true ∧ Binds K fd ps []
structure GfX (k : Nat) (x : Str) (F : M → List M → R (M × M)) : Prop where
  ex : ∃ (f : Addr) (fd : FuncData) (ps : List Str), FnOk P w K mg base CX0 k f fd ps (spX K F) ∧ mg x = some (.ref f) ∧ PySem.W.keepIn K (.ref f) = true ∧ Binds K fd ps []
structure GfG (k : Nat) (x : Str) (F : List M → R M) : Prop where
  ex : ∃ (f : Addr) (fd : FuncData) (ps : List Str), FnG P w K mg base CX0 k f fd ps (spP K F) ∧ mg x = some (.ref f) ∧ PySem.W.keepIn K (.ref f) = true ∧ Binds K fd ps []
/-- the method m of the class at C -/
structure GmP (C : Addr) (k : Nat) (m : Str) (F : List M → R M) : Prop where
  ex : ∃ (f : Addr) (fd : FuncData) (ps : List Str), FnOk P w K mg base CX0 k f fd ps (spP K F) ∧ Meth K C m f ∧ Binds K fd ps []
structure GmX (C : Addr) (k : Nat) (m : Str) (F : M → List M → R (M × M)) : Prop where
  ex : ∃ (f : Addr) (fd : FuncData) (ps : List Str), FnOk P w K mg base CX0 k f fd ps (spX K F) ∧ Meth K C m f ∧ Binds K fd ps []
/-- the class x at C, made by F -/
structure GcX (C : Addr) (k : Nat) (x : Str) (F : M → List M → R (M × M)) : Prop where
  ex : ∃ (f : Addr) (fd : FuncData) (ps : List Str), FnOk P w K mg base CX0 k f fd ps (spX K F) ∧ Mk K C f ∧ mg x = some (.ref C) ∧ Binds K fd ps []
/-- the class's own == -/
structure GeP (C : Addr) (k : Nat) (F : List M → R M) : Prop where
  ex : ∃ (f : Addr) (fd : FuncData) (ps : List Str), FnOk P w K mg base CX0 k f fd ps (spP K F) ∧ EqF K C f ∧ Binds K fd ps []
end
section
variable {X : Cx} {md : List Md} {k : Nat} {x m : Str} {C : Addr} {p apos pos : Pos} {e o : Expr} {es : List Expr} {U Uo : List Nat} {G : Env → R (List M)} {fo : Env → R M} {F : List M → R M} {Fx : M → List M → R (M × M)} {i : Nat} {pl : List Stp}
theorem pd_fn (g : GfP X.prog X.w X.K X.mg X.base k x F) (hr : Room k X.A) (hg : Gl X x) (ha : PA X (e :: es) (tDA X.K U G)) (hdb : (x == ("__debug__" : Str)) = false := by decide) (he : starEach (e :: es) X.env = (false, eval e X.env) :: starEach es X.env := by rfl) (hpl : (backTo pos (starEach es X.env)).any (·.1) = false := by rfl) :
    PE X (.Call (.Name x p) (e :: es) [] pos) (tD X.K [] fun ρ => G ρ >>= F) := by
  obtain ⟨f, fd, ps, h1, h2, h3, h4⟩ := g.ex
  exact pd_call (E := fun _ _ _ => False) h1 hr hg h2 h3 h4 pass0 ha hdb he hpl
theorem pd_fnG (gu : X.A.guards = some []) (g : GfG X.prog X.w X.K X.mg X.base k x F) (hr : Room k X.A) (hg : Gl X x) (ha : PA X (e :: es) (tDA X.K U G)) (hdb : (x == ("__debug__" : Str)) = false := by decide) (he : starEach (e :: es) X.env = (false, eval e X.env) :: starEach es X.env := by rfl) (hpl : (backTo pos (starEach es X.env)).any (·.1) = false := by rfl) :
    PE X (.Call (.Name x p) (e :: es) [] pos) (tD X.K [] fun ρ => G ρ >>= F) := by
  obtain ⟨f, fd, ps, h1, h2, h3, h4⟩ := g.ex
  exact pd_callG (E := fun _ _ _ => False) gu h1 hr hg h2 h3 h4 pass0 ha hdb he hpl
theorem pxd_fn (hi : md[i]? = some Md.loc ∨ md[i]? = some Md.io) (hU : i ∉ U) (g : GfX X.prog X.w X.K X.mg X.base k x Fx) (hr : Room k X.A) (hg : Gl X x) (ho : PE X e (tP i pl)) (ha : PA X es (tDA X.K U G)) (hs : starEach (e :: es) X.env = (false, eval e X.env) :: starEach es X.env := by rfl) (hdb : (x == ("__debug__" : Str)) = false := by decide) (hpl : (backTo pos (starEach es X.env)).any (·.1) = false := by rfl) :
    PXD X md (.Call (.Name x p) (e :: es) [] pos) (fun ρ => G ρ >>= fun ms => plX i pl (fun n => Fx n ms) ρ) := by
  obtain ⟨f, fd, ps, h1, h2, h3, h4⟩ := g.ex
  exact pxd_call (E := fun _ _ _ => False) hi hU h1 hr hg h2 h3 h4 pass0 ho ha hs hdb hpl
theorem pd_mt {pls : Sem Bool} (g : GmP X.prog X.w X.K X.mg X.base C k m F) (c : Cls X.K C) (hr : Room k X.A) (he : PE X o (tD X.K Uo fo)) (ha : PA X (e :: es) (tDA X.K U G))
    (hst : starEach (e :: es) X.env = (false, eval e X.env) :: starEach es X.env := by rfl) (hpl : (backTo pos (starEach es X.env)).any (·.1) = false := by rfl)
    (ht : eval (.Call (.Attribute o m apos) (e :: es) [] pos) X.env = (do
      let ov ← eval o X.env
      standAt apos.atName
      let (f, first) ← holding [ov] (getMethod ov m pls)
      callWith pos f first (backTo pos (starEach (e :: es) X.env)) (backToKw pos (keywordEach [] X.env))) := by rfl) :
    PE X (.Call (.Attribute o m apos) (e :: es) [] pos) (tD X.K [] fun ρ => fo ρ >>= fun a => isObj C m a >>= fun a => G ρ >>= fun ms => F (a :: ms)) := by
  obtain ⟨f, fd, ps, h1, h2, h3⟩ := g.ex
  exact pd_meth (E := fun _ _ _ => False) he c h2 h1 hr h3 pass0 ha hst hpl ht
theorem pd_mt0 {pls : Sem Bool} (g : GmP X.prog X.w X.K X.mg X.base C k m F) (c : Cls X.K C) (hr : Room k X.A) (he : PE X o (tD X.K Uo fo))
    (ht : eval (.Call (.Attribute o m apos) [] [] pos) X.env = (do
      let ov ← eval o X.env
      standAt apos.atName
      let (f, first) ← holding [ov] (getMethod ov m pls)
      callWith pos f first (backTo pos (starEach [] X.env)) (backToKw pos (keywordEach [] X.env))) := by rfl) :
    PE X (.Call (.Attribute o m apos) [] [] pos) (tD X.K [] fun ρ => fo ρ >>= fun a => isObj C m a >>= fun a => F [a]) := by
  obtain ⟨f, fd, ps, h1, h2, h3⟩ := g.ex
  exact pd_meth0 (E := fun _ _ _ => False) he c h2 h1 hr h3 pass0 ht
theorem pxd_mt {pls : Sem Bool} (hi : md[i]? = some Md.loc ∨ md[i]? = some Md.io) (hU : i ∉ U) (g : GmX X.prog X.w X.K X.mg X.base C k m Fx) (c : Cls X.K C) (hr : Room k X.A) (ho : PE X o (tP i pl)) (ha : PA X (e :: es) (tDA X.K U G))
    (hst : starEach (e :: es) X.env = (false, eval e X.env) :: starEach es X.env := by rfl) (hpl : (backTo pos (starEach es X.env)).any (·.1) = false := by rfl)
    (ht : eval (.Call (.Attribute o m apos) (e :: es) [] pos) X.env = (do
      let ov ← eval o X.env
      standAt apos.atName
      let (f, first) ← holding [ov] (getMethod ov m pls)
      callWith pos f first (backTo pos (starEach (e :: es) X.env)) (backToKw pos (keywordEach [] X.env))) := by rfl) :
    PXD X md (.Call (.Attribute o m apos) (e :: es) [] pos) (fun ρ => G ρ >>= fun ms => plX i pl (fun n => isObj C m n >>= fun n => Fx n ms) ρ) := by
  obtain ⟨f, fd, ps, h1, h2, h3⟩ := g.ex
  exact pxd_meth (E := fun _ _ _ => False) hi hU ho c h2 h1 hr h3 pass0 ha hst hpl ht
theorem pxd_mt0 {pls : Sem Bool} (hi : md[i]? = some Md.loc ∨ md[i]? = some Md.io) (g : GmX X.prog X.w X.K X.mg X.base C k m Fx) (c : Cls X.K C) (hr : Room k X.A) (ho : PE X o (tP i pl))
    (ht : eval (.Call (.Attribute o m apos) [] [] pos) X.env = (do
      let ov ← eval o X.env
      standAt apos.atName
      let (f, first) ← holding [ov] (getMethod ov m pls)
      callWith pos f first (backTo pos (starEach [] X.env)) (backToKw pos (keywordEach [] X.env))) := by rfl) :
    PXD X md (.Call (.Attribute o m apos) [] [] pos) (fun ρ => plX i pl (fun n => isObj C m n >>= fun n => Fx n []) ρ) := by
  obtain ⟨f, fd, ps, h1, h2, h3⟩ := g.ex
  exact pxd_meth0 (E := fun _ _ _ => False) hi ho c h2 h1 hr h3 pass0 ht
theorem pd_new0 (g : GcX X.prog X.w X.K X.mg X.base C k x Fx) (hr : Room (k + 1) X.A) (hg : Gl X x) (hdb : (x == ("__debug__" : Str)) = false := by decide) : PE X (.Call (.Name x p) [] [] pos) (tD X.K [] fun _ => mkM C Fx []) := by
  obtain ⟨f, fd, ps, h1, h2, h3, h4⟩ := g.ex
  exact pd_make0 (E := fun _ _ _ => False) h2 h1 hr hg h3 h4 pass0 hdb
theorem pd_new (g : GcX X.prog X.w X.K X.mg X.base C k x Fx) (hr : Room (k + 1) X.A) (hg : Gl X x) (ha : PA X (e :: es) (tDA X.K U G)) (hdb : (x == ("__debug__" : Str)) = false := by decide) (he : starEach (e :: es) X.env = (false, eval e X.env) :: starEach es X.env := by rfl) (hpl : (backTo pos (starEach es X.env)).any (·.1) = false := by rfl) :
    PE X (.Call (.Name x p) (e :: es) [] pos) (tD X.K [] fun ρ => G ρ >>= mkM C Fx) := by
  obtain ⟨f, fd, ps, h1, h2, h3, h4⟩ := g.ex
  exact pd_make (E := fun _ _ _ => False) h2 h1 hr hg h3 h4 pass0 ha hdb he hpl
theorem o_ownG (g : GeP X.prog X.w X.K X.mg X.base C k F) (hr : Room k X.A) : OpR X (compareOp .Eq) (rDn X.K (ownEq C F)) := by
  obtain ⟨f, fd, ps, h1, h2, h3⟩ := g.ex
  exact o_own (E := fun _ _ _ => False) h2 h1 hr h3 pass0
theorem pd_gI {i : Int} {pos : Pos} (h : ∃ t, X.mg x = some (.int i t)) (hg : Gl X x) (hd : (x == ("__debug__" : Str)) = false := by decide) : PE X (.Name x pos) (tD X.K [] fun _ => .ok (mI i)) := by
  obtain ⟨t, h⟩ := h
  exact pd_globI hg h hd
end
theorem bb_len : bootBuiltins "len" = some (.builtin "len") := by decide +kernel
theorem bb_sum : bootBuiltins "sum" = some (.builtin "sum") := by decide +kernel
theorem bb_abs : bootBuiltins "abs" = some (.builtin "abs") := by decide +kernel
theorem bb_min : bootBuiltins "min" = some (.builtin "min") := by decide +kernel
theorem bb_max : bootBuiltins "max" = some (.builtin "max") := by decide +kernel
theorem bb_all : bootBuiltins "all" = some (.builtin "all") := by decide +kernel
theorem bb_any : bootBuiltins "any" = some (.builtin "any") := by decide +kernel
theorem bb_ord : bootBuiltins "ord" = some (.builtin "ord") := by decide +kernel
theorem bb_repr : bootBuiltins "repr" = some (.builtin "repr") := by decide +kernel
theorem bb_sorted : bootBuiltins "sorted" = some (.builtin "sorted") := by decide +kernel
theorem bb_isinstance : bootBuiltins "isinstance" = some (.builtin "isinstance") := by decide +kernel
theorem bb_int : bootBuiltins "int" = some (.type "int") := by decide +kernel
theorem bb_str : bootBuiltins "str" = some (.type "str") := by decide +kernel
theorem bb_dict : bootBuiltins "dict" = some (.type "dict") := by decide +kernel
theorem bb_list : bootBuiltins "list" = some (.type "list") := by decide +kernel
theorem bb_tuple : bootBuiltins "tuple" = some (.type "tuple") := by decide +kernel
end DL
namespace DL.K52
open PySem PySem.Spec PyProof.Rows L2 DL
def top (i : Nat) : Stmt := PySem.Challenge.pw_latesettled_k52_disks_and_frames.main.body.getD i (.Pass ⟨0, 0, 0, 0⟩)
abbrev s__law_bag : Stmt := top 10
abbrev _law_bag_N : List Str := ["script", "cell"]
abbrev s_Disk___init__ : Stmt := inClass (top 3) 0
abbrev Disk___init___N : List Str := ["self"]
abbrev s__law_take : Stmt := top 11
abbrev _law_take_N : List Str := ["bag", "many", "begin", "second", "cell", "stirred", "value"]
abbrev s__law_some : Stmt := top 12
abbrev _law_some_N : List Str := ["bag", "things"]
abbrev s_Disk_done : Stmt := inClass (top 3) 5
abbrev Disk_done_N : List Str := ["self", "many", "found", "left", "name", "text"]
abbrev s_Disk_loose : Stmt := inClass (top 3) 4
abbrev Disk_loose_N : List Str := ["self", "name", "text"]
abbrev s_Disk_files : Stmt := inClass (top 3) 6
abbrev Disk_files_N : List Str := ["self"]
abbrev s_Disk_sync : Stmt := inClass (top 3) 3
abbrev Disk_sync_N : List Str := ["self"]
abbrev s__law_files : Stmt := top 17
abbrev _law_files_N : List Str := ["solid", "loose", "files", "name", "sign"]
abbrev s_Disk_drop : Stmt := inClass (top 3) 2
abbrev Disk_drop_N : List Str := ["self", "name"]
abbrev s_Disk_add : Stmt := inClass (top 3) 1
abbrev Disk_add_N : List Str := ["self", "name", "text"]
abbrev s_Disk_names : Stmt := inClass (top 3) 7
abbrev Disk_names_N : List Str := ["self"]
abbrev s__law_alike : Stmt := top 13
abbrev _law_alike_N : List Str := ["found", "due"]
abbrev s_Disk_text : Stmt := inClass (top 3) 8
abbrev Disk_text_N : List Str := ["self", "name"]
abbrev s_Disk_crashed : Stmt := inClass (top 3) 9
abbrev Disk_crashed_N : List Str := ["self", "many", "found"]
abbrev s_Disk___eq__ : Stmt := inClass (top 3) 11
abbrev Disk___eq___N : List Str := ["self", "other"]
abbrev s__law_framed : Stmt := top 14
abbrev _law_framed_N : List Str := ["text", "check", "at", "sign"]
abbrev s_check_of : Stmt := top 4
abbrev check_of_N : List Str := ["text", "place", "sign"]
abbrev s_framed : Stmt := top 5
abbrev framed_N : List Str := ["text"]
abbrev s_number_at : Stmt := top 6
abbrev number_at_N : List Str := ["text", "begin", "end", "word", "sign"]
abbrev s_frame_at : Stmt := top 7
abbrev frame_at_N : List Str := ["text", "begin", "length", "check", "found", "end", "is_whole"]
abbrev s_frames_in : Stmt := top 8
abbrev frames_in_N : List Str := ["text", "found", "begin", "frame"]
abbrev s__law_first_frame : Stmt := top 15
abbrev _law_first_frame_N : List Str := ["text", "words", "begin", "inner", "frame"]
abbrev s__law_frames : Stmt := top 16
abbrev _law_frames_N : List Str := ["text", "turn", "found", "rest", "first"]
abbrev s_law : Stmt := top 18
abbrev law_N : List Str := ["script", "bag", "again", "texts", "whole", "cut", "disk", "solid", "loose", "files", "many", "at", "bent", "name", "way", "other", "there", "text", "one", "sign"]
/-! ### the plain functions -/
def _law_bag_b (C_Disk : Addr) : DL.Env → R Fl :=
  (retS fun ρ => ((R.ok (mI 0) >>= fun m => (R.ok (mI 1234567891) >>= fun m => (R.ok (mI 0) >>= fun m => ((lcM [1] (fun ρ => ((getV ρ 0 >>= fun x => R.ok none >>= fun l => (R.ok (mI 63) >>= fun m => intR m >>= fun i => R.ok (some i)) >>= fun u => cutM x l u) >>= itemsM)) (gSet 1) yesM (fun ρ => ((getV ρ 1 >>= fun m => R.ok [] >>= fun ms => R.ok (m :: ms)) >>= absM)) ρ) >>= fun m => R.ok [] >>= fun ms => R.ok (m :: ms)) >>= fun ms => R.ok (m :: ms)) >>= fun ms => R.ok (m :: ms)) >>= fun ms => R.ok (m :: ms)) >>= mLst))
def _law_bag_f (C_Disk : Addr) : List M → R M := defP 1 2 (_law_bag_b C_Disk)
def Disk___init___b (C_Disk : Addr) : DL.Env → R Fl :=
  (fld2S 0 C_Disk "its_sure" "its_since" fun ρ => ((R.ok (.dic []) >>= fun m => ((R.ok [] >>= mLst) >>= fun m => R.ok [] >>= fun ms => R.ok (m :: ms)) >>= fun ms => R.ok (m :: ms)) >>= mTup))
def Disk___init___f (C_Disk : Addr) : M → List M → R (M × M) := defX 1 1 (Disk___init___b C_Disk)
def _law_take_b (C_Disk : Addr) : DL.Env → R Fl :=
  (seqS (ifS (fun ρ => ((getV ρ 0 >>= fun x => R.ok (mI 0) >>= fun y => ixM x y) >>= fun x => R.ok (mI 0) >>= fun y => oEq x y >>= asB))
  (seqS (setS 4 fun ρ => ((((getV ρ 0 >>= fun x => R.ok (mI 3) >>= fun y => ixM x y) >>= fun x => ((getV ρ 0 >>= fun x => R.ok (mI 2) >>= fun y => ixM x y) >>= fun m => intR m >>= fun i => R.ok (some i)) >>= fun l => R.ok none >>= fun u => cutM x l u) >>= fun x => ((R.ok (mI 0) >>= fun m => R.ok [] >>= fun ms => R.ok (m :: ms)) >>= mLst) >>= fun y => oAdd x y) >>= fun x => R.ok (mI 0) >>= fun y => ixM x y))
  (seqS (augItL 0 [] (fun ρ => R.ok (mI 1)) (fun ρ => R.ok (mI 2)) oAddI)
  (seqS (ifS (fun ρ => (getV ρ 4 >>= fun x => (R.ok (mI 10) >>= fun x => R.ok (mI 18) >>= fun y => oPow x y) >>= fun y => oGe x y >>= asB))
  (plS2 0 [] (fun ρ => (getV ρ 4 >>= asIm)) (fun ρ => R.ok (mI 0)) setItL)
  nextS)
  (seqS (setS 5 fun ρ => ((((getV ρ 0 >>= fun x => R.ok (mI 1) >>= fun y => ixM x y) >>= fun x => R.ok (mI 48271) >>= fun y => oMul x y) >>= fun x => (((getV ρ 4 >>= fun m => R.ok [] >>= fun ms => R.ok (m :: ms)) >>= intM) >>= fun x => R.ok (mI 2147483647) >>= fun y => oMod x y) >>= fun y => oAdd x y) >>= fun x => (R.ok (mI 7919) >>= fun x => (getV ρ 0 >>= fun x => R.ok (mI 2) >>= fun y => ixM x y) >>= fun y => oMul x y) >>= fun y => oAdd x y))
  (plS2 0 [] (fun ρ => (((getV ρ 5 >>= fun m => R.ok [] >>= fun ms => R.ok (m :: ms)) >>= intM) >>= fun x => R.ok (mI 2147483647) >>= fun y => oMod x y)) (fun ρ => R.ok (mI 1)) setItL)))))
  nextS)
  (seqS (ifS (fun ρ => ((getV ρ 0 >>= fun x => R.ok (mI 0) >>= fun y => ixM x y) >>= fun x => R.ok (mI 0) >>= fun y => oGt x y >>= asB))
  (seqS (setS 6 fun ρ => ((((getV ρ 0 >>= fun x => R.ok (mI 0) >>= fun y => ixM x y) >>= fun m => R.ok [] >>= fun ms => R.ok (m :: ms)) >>= intM) >>= fun x => getV ρ 1 >>= fun y => oMod x y))
  (seqS (plS2 0 [] (fun ρ => ((((getV ρ 0 >>= fun x => R.ok (mI 0) >>= fun y => ixM x y) >>= fun m => R.ok [] >>= fun ms => R.ok (m :: ms)) >>= intM) >>= fun x => getV ρ 1 >>= fun y => oDiv x y)) (fun ρ => R.ok (mI 0)) setItL)
  (retS fun ρ => getV ρ 6)))
  nextS)
  (seqS (setS 2 fun ρ => ((((((getV ρ 0 >>= fun x => R.ok (mI 1) >>= fun y => ixM x y) >>= fun x => R.ok (mI 1) >>= fun y => oAdd x y) >>= fun x => R.ok (mI 39373) >>= fun y => oMul x y) >>= fun m => R.ok [] >>= fun ms => R.ok (m :: ms)) >>= intM) >>= fun x => R.ok (mI 1000000007) >>= fun y => oMod x y))
  (seqS (setS 3 fun ρ => ((((((((getV ρ 2 >>= fun x => getV ρ 2 >>= fun y => oMul x y) >>= fun m => R.ok [] >>= fun ms => R.ok (m :: ms)) >>= intM) >>= fun x => R.ok (mI 998244353) >>= fun y => oMod x y) >>= fun x => R.ok (mI 30011) >>= fun y => oMul x y) >>= fun m => R.ok [] >>= fun ms => R.ok (m :: ms)) >>= intM) >>= fun x => R.ok (mI 998244353) >>= fun y => oMod x y))
  (retS fun ρ => ((((getV ρ 3 >>= fun x => R.ok (mI 7) >>= fun y => oDiv x y) >>= fun m => R.ok [] >>= fun ms => R.ok (m :: ms)) >>= intM) >>= fun x => getV ρ 1 >>= fun y => oMod x y))))))
def _law_take_f (C_Disk : Addr) : M → List M → R (M × M) := defX 2 7 (_law_take_b C_Disk)
def _law_some_b (C_Disk : Addr) : DL.Env → R Fl :=
  (retX (fun ρ => (opU (fun ρ => getV ρ 1) (fun ρ => (fun ρ => (((getV ρ 1 >>= fun m => R.ok [] >>= fun ms => R.ok (m :: ms)) >>= lenM) >>= fun m => R.ok [] >>= fun ms => R.ok (m :: ms)) >>= fun ms => plX 0 [] (fun n => (_law_take_f C_Disk) n ms) ρ) ρ >>= fun x => asI x.1 >>= fun i => R.ok (i, x.2)) ixI) ρ >>= fun x => R.ok (.im x.1, x.2)))
def _law_some_f (C_Disk : Addr) : M → List M → R (M × M) := defX 2 2 (_law_some_b C_Disk)
def Disk_done_b (C_Disk : Addr) : DL.Env → R Fl :=
  (seqS (parS [2, 3] fun ρ => ((((getV ρ 0 >>= fldM C_Disk "its_sure") >>= fun m => R.ok [] >>= fun ms => R.ok (m :: ms)) >>= dictM) >>= fun m => ((getV ρ 1 >>= asIm) >>= fun m => R.ok [] >>= fun ms => R.ok (m :: ms)) >>= fun ms => R.ok (m :: ms)))
  (seqS (forS [4, 5] (pureX fun ρ => ((getV ρ 0 >>= fldM C_Disk "its_since") >>= itemsM)) ((gTupM 2 (gConsM (gSet 4) (gConsM (gSet 5) gNilM))))
  (seqS (ifS (fun ρ => (getV ρ 3 >>= fun x => R.ok (mI 0) >>= fun y => oEq x y >>= asB))
  (fun ρ => R.ok (.bk ρ))
  nextS)
  (ifS (fun ρ => (getV ρ 5 >>= fun x => R.ok mN >>= fun y => oIsN x y >>= asB))
  (seqS (dropX (fun ρ => (getV ρ 4 >>= fun x => R.ok mN >>= fun y => R.ok [x, y]) >>= fun ms => plX 2 [] (fun n => popD n ms) ρ))
  (augS 3 oSub fun ρ => R.ok (mI 1)))
  (seqS (plS2 2 [] (fun ρ => ((getV ρ 2 >>= fun x => getV ρ 4 >>= fun y => R.ok (mS "") >>= fun z => dGet2 x y z) >>= fun x => (getV ρ 5 >>= fun x => R.ok none >>= fun l => (getV ρ 3 >>= fun m => intR m >>= fun i => R.ok (some i)) >>= fun u => cutM x l u) >>= fun y => oAdd x y)) (fun ρ => getV ρ 4) setItD)
  (augS 3 oSub fun ρ => ((getV ρ 3 >>= fun m => (((getV ρ 5 >>= fun m => R.ok [] >>= fun ms => R.ok (m :: ms)) >>= lenM) >>= fun m => R.ok [] >>= fun ms => R.ok (m :: ms)) >>= fun ms => R.ok (m :: ms)) >>= min2M))))))
  (retS fun ρ => getV ρ 2)))
def Disk_done_f (C_Disk : Addr) : List M → R M := defP 2 6 (Disk_done_b C_Disk)
def Disk_loose_b (C_Disk : Addr) : DL.Env → R Fl :=
  (retS fun ρ => (((lcM [1, 2] (fun ρ => ((getV ρ 0 >>= fldM C_Disk "its_since") >>= itemsM)) (gTupM 2 (gConsM (gSet 1) (gConsM (gSet 2) gNilM))) yesM (fun ρ => (rIf ((getV ρ 2 >>= fun x => R.ok mN >>= fun y => oIsN x y >>= asB)) (fun _ => R.ok (mI 1)) fun _ => ((getV ρ 2 >>= fun m => R.ok [] >>= fun ms => R.ok (m :: ms)) >>= lenM))) ρ) >>= fun m => R.ok [] >>= fun ms => R.ok (m :: ms)) >>= sumM))
def Disk_loose_f (C_Disk : Addr) : List M → R M := defP 1 3 (Disk_loose_b C_Disk)
def Disk_files_b (C_Disk : Addr) : DL.Env → R Fl :=
  (retS fun ρ => (getV ρ 0 >>= fun a => isObj C_Disk "done" a >>= fun a => ((getV ρ 0 >>= fun a => isObj C_Disk "loose" a >>= fun a => (Disk_loose_f C_Disk) [a]) >>= fun m => R.ok [] >>= fun ms => R.ok (m :: ms)) >>= fun ms => (Disk_done_f C_Disk) (a :: ms)))
def Disk_files_f (C_Disk : Addr) : List M → R M := defP 1 1 (Disk_files_b C_Disk)
def Disk_sync_b (C_Disk : Addr) : DL.Env → R Fl :=
  (fld2S 0 C_Disk "its_sure" "its_since" fun ρ => (((getV ρ 0 >>= fun a => isObj C_Disk "files" a >>= fun a => (Disk_files_f C_Disk) [a]) >>= fun m => ((R.ok [] >>= mLst) >>= fun m => R.ok [] >>= fun ms => R.ok (m :: ms)) >>= fun ms => R.ok (m :: ms)) >>= mTup))
def Disk_sync_f (C_Disk : Addr) : M → List M → R (M × M) := defX 1 1 (Disk_sync_b C_Disk)
def _law_files_b (C_Disk : Addr) : DL.Env → R Fl :=
  (seqS (setS 2 fun ρ => (((getV ρ 0 >>= itemsL) >>= fun m => R.ok [] >>= fun ms => R.ok (m :: ms)) >>= dictM))
  (seqS (forS [3, 4] (pureX fun ρ => (getV ρ 1 >>= itemsM)) ((gTupM 2 (gConsM (gSet 3) (gConsM (gSet 4) gNilM))))
  (ifS (fun ρ => (getV ρ 4 >>= fun x => R.ok (mS "") >>= fun y => oEq x y >>= asB))
  (dropX (fun ρ => (getV ρ 3 >>= fun x => R.ok mN >>= fun y => R.ok [x, y]) >>= fun ms => plX 2 [] (fun n => popD n ms) ρ))
  (plS2 2 [] (fun ρ => ((getV ρ 2 >>= fun x => getV ρ 3 >>= fun y => R.ok (mS "") >>= fun z => dGet2 x y z) >>= fun x => getV ρ 4 >>= fun y => oAdd x y)) (fun ρ => getV ρ 3) setItD)))
  (retS fun ρ => getV ρ 2)))
def _law_files_f (C_Disk : Addr) : List M → R M := defP 2 5 (_law_files_b C_Disk)
def Disk_drop_b (C_Disk : Addr) : DL.Env → R Fl :=
  (dropX (fun ρ => ((((getV ρ 1 >>= asIm) >>= fun m => (R.ok mN >>= fun m => R.ok [] >>= fun ms => R.ok (m :: ms)) >>= fun ms => R.ok (m :: ms)) >>= mTup) >>= fun m => R.ok [] >>= fun ms => R.ok (m :: ms)) >>= fun ms => plX 0 [.fld C_Disk "its_since"] (fun n => appM n ms) ρ))
def Disk_drop_f (C_Disk : Addr) : M → List M → R (M × M) := defX 2 2 (Disk_drop_b C_Disk)
def Disk_add_b (C_Disk : Addr) : DL.Env → R Fl :=
  (ifS (fun ρ => (getV ρ 2 >>= fun x => R.ok (mS "") >>= fun y => oNe x y >>= asB))
  (dropX (fun ρ => ((((getV ρ 1 >>= asIm) >>= fun m => ((getV ρ 2 >>= asIm) >>= fun m => R.ok [] >>= fun ms => R.ok (m :: ms)) >>= fun ms => R.ok (m :: ms)) >>= mTup) >>= fun m => R.ok [] >>= fun ms => R.ok (m :: ms)) >>= fun ms => plX 0 [.fld C_Disk "its_since"] (fun n => appM n ms) ρ))
  nextS)
def Disk_add_f (C_Disk : Addr) : M → List M → R (M × M) := defX 3 3 (Disk_add_b C_Disk)
def Disk_names_b (C_Disk : Addr) : DL.Env → R Fl :=
  (retS fun ρ => (((((getV ρ 0 >>= fun a => isObj C_Disk "files" a >>= fun a => (Disk_files_f C_Disk) [a]) >>= fun m => R.ok [] >>= fun ms => R.ok (m :: ms)) >>= sortedM) >>= fun m => R.ok [] >>= fun ms => R.ok (m :: ms)) >>= tupleM))
def Disk_names_f (C_Disk : Addr) : List M → R M := defP 1 1 (Disk_names_b C_Disk)
def _law_alike_b (C_Disk : Addr) : DL.Env → R Fl :=
  (retS fun ρ => (vAnd ((((getV ρ 0 >>= fun m => R.ok [] >>= fun ms => R.ok (m :: ms)) >>= reprM) >>= fun x => ((getV ρ 1 >>= fun m => R.ok [] >>= fun ms => R.ok (m :: ms)) >>= reprM) >>= fun y => oEq x y)) fun _ => (getV ρ 0 >>= fun x => getV ρ 1 >>= fun y => oEq x y)))
def _law_alike_f (C_Disk : Addr) : List M → R M := defP 2 2 (_law_alike_b C_Disk)
def Disk_text_b (C_Disk : Addr) : DL.Env → R Fl :=
  (retS fun ρ => ((getV ρ 0 >>= fun a => isObj C_Disk "files" a >>= fun a => (Disk_files_f C_Disk) [a]) >>= fun x => getV ρ 1 >>= fun y => R.ok (mS "") >>= fun z => dGet2 x y z))
def Disk_text_f (C_Disk : Addr) : List M → R M := defP 2 2 (Disk_text_b C_Disk)
def Disk_crashed_b (C_Disk : Addr) : DL.Env → R Fl :=
  (seqS (setS 2 fun ρ => mkM C_Disk (Disk___init___f C_Disk) [])
  (seqS (plS 2 [] (fun ρ => (getV ρ 0 >>= fun a => isObj C_Disk "done" a >>= fun a => (getV ρ 1 >>= fun m => R.ok [] >>= fun ms => R.ok (m :: ms)) >>= fun ms => (Disk_done_f C_Disk) (a :: ms))) (fldS C_Disk "its_sure"))
  (retS fun ρ => getV ρ 2)))
def Disk_crashed_f (C_Disk : Addr) : List M → R M := defP 2 3 (Disk_crashed_b C_Disk)
def Disk___eq___b (C_Disk : Addr) : DL.Env → R Fl :=
  (retS fun ρ => (vAnd ((getV ρ 1 >>= isiM C_Disk)) fun _ => ((getV ρ 0 >>= fun a => isObj C_Disk "files" a >>= fun a => (Disk_files_f C_Disk) [a]) >>= fun x => (getV ρ 1 >>= fun a => isObj C_Disk "files" a >>= fun a => (Disk_files_f C_Disk) [a]) >>= fun y => oEq x y)))
def Disk___eq___f (C_Disk : Addr) : List M → R M := defP 2 2 (Disk___eq___b C_Disk)
def _law_framed_b (C_Disk : Addr) : DL.Env → R Fl :=
  (seqS (setS 1 fun ρ => (((lcM [2, 3] (fun ρ => (getV ρ 0 >>= fun x => itemsM x >>= fun ms => R.ok (enumFrom 0 ms))) (gTupM 2 (gConsM (gSet 2) (gConsM (gSet 3) gNilM))) yesM (fun ρ => ((getV ρ 2 >>= fun x => R.ok (mI 1) >>= fun y => oAdd x y) >>= fun x => ((getV ρ 3 >>= fun m => R.ok [] >>= fun ms => R.ok (m :: ms)) >>= ordM) >>= fun y => oMul x y)) ρ) >>= fun m => R.ok [] >>= fun ms => R.ok (m :: ms)) >>= sumM))
  (retS fun ρ => (((((((((getV ρ 0 >>= fun m => R.ok [] >>= fun ms => R.ok (m :: ms)) >>= lenM) >>= fun m => R.ok [] >>= fun ms => R.ok (m :: ms)) >>= strM) >>= fun x => R.ok (mS " ") >>= fun y => oAdd x y) >>= fun x => (((((getV ρ 1 >>= fun m => R.ok [] >>= fun ms => R.ok (m :: ms)) >>= intM) >>= fun x => R.ok (mI 9973) >>= fun y => oMod x y) >>= fun m => R.ok [] >>= fun ms => R.ok (m :: ms)) >>= strM) >>= fun y => oAdd x y) >>= fun x => R.ok (mS " ") >>= fun y => oAdd x y) >>= fun x => getV ρ 0 >>= fun y => oAdd x y) >>= fun x => R.ok (mS "\n") >>= fun y => oAdd x y)))
def _law_framed_f (C_Disk : Addr) : List M → R M := defP 1 4 (_law_framed_b C_Disk)
def check_of_b (C_Disk : Addr) : DL.Env → R Fl :=
  (retS fun ρ => ((((lcM [1, 2] (fun ρ => (getV ρ 0 >>= fun x => R.ok (mI 1) >>= fun k => intR k >>= fun k => itemsM x >>= fun ms => if -(2 ^ 63) ≤ k ∧ k < 2 ^ 63 then R.ok (enumFrom k ms) else R.no)) (gTupM 2 (gConsM (gSet 1) (gConsM (gSet 2) gNilM))) yesM (fun ρ => (getV ρ 1 >>= fun x => ((getV ρ 2 >>= fun m => R.ok [] >>= fun ms => R.ok (m :: ms)) >>= ordM) >>= fun y => oMul x y)) ρ) >>= fun m => R.ok [] >>= fun ms => R.ok (m :: ms)) >>= sumM) >>= fun x => R.ok (mI (9973)) >>= fun y => oMod x y))
def check_of_f (C_Disk : Addr) : List M → R M := defP 1 3 (check_of_b C_Disk)
def framed_b (C_Disk : Addr) : DL.Env → R Fl :=
  (retS fun ρ => (joinedR [fun ρ => (((getV ρ 0 >>= fun m => R.ok [] >>= fun ms => R.ok (m :: ms)) >>= lenM) >>= fmtM), fun ρ => R.ok (mS " "), fun ρ => (((getV ρ 0 >>= fun m => R.ok [] >>= fun ms => R.ok (m :: ms)) >>= (check_of_f C_Disk)) >>= fmtM), fun ρ => R.ok (mS " "), fun ρ => (getV ρ 0 >>= fmtM), fun ρ => R.ok (mS "\n")] Str.empty ρ >>= fun y => R.ok (mS y)))
def framed_f (C_Disk : Addr) : List M → R M := defP 1 1 (framed_b C_Disk)
def number_at_b (C_Disk : Addr) : DL.Env → R Fl :=
  (seqS (setS 2 fun ρ => (getV ρ 0 >>= fun m => (R.ok (mS " ") >>= fun m => (getV ρ 1 >>= fun m => ((getV ρ 1 >>= fun x => R.ok (mI 12) >>= fun y => oAdd x y) >>= fun m => R.ok [] >>= fun ms => R.ok (m :: ms)) >>= fun ms => R.ok (m :: ms)) >>= fun ms => R.ok (m :: ms)) >>= fun ms => findM m ms))
  (seqS (setS 3 fun ρ => (rIf ((getV ρ 2 >>= fun x => getV ρ 1 >>= fun y => oGt x y >>= asB)) (fun _ => (getV ρ 0 >>= fun x => (getV ρ 1 >>= fun m => intR m >>= fun i => R.ok (some i)) >>= fun l => (getV ρ 2 >>= fun m => intR m >>= fun i => R.ok (some i)) >>= fun u => cutM x l u)) fun _ => R.ok (mS "")))
  (seqS (ifS (fun ρ => (rOr ((getV ρ 3 >>= fun x => R.ok (mS "") >>= fun y => oEq x y >>= asB)) fun _ => (((((lcM [4] (fun ρ => (getV ρ 3 >>= itemsM)) (gSet 4) yesM (fun ρ => ((R.ok (mS "0") >>= fun x => getV ρ 4 >>= fun y => chain oLe oLe x y fun _ => R.ok (mS "9")))) ρ) >>= fun m => R.ok [] >>= fun ms => R.ok (m :: ms)) >>= allM) >>= asB) >>= fun b => R.ok (!b))))
  (retS fun ρ => R.ok mN)
  nextS)
  (retS fun ρ => ((((getV ρ 3 >>= fun m => R.ok [] >>= fun ms => R.ok (m :: ms)) >>= intM) >>= fun m => ((getV ρ 2 >>= fun x => R.ok (mI 1) >>= fun y => oAdd x y) >>= fun m => R.ok [] >>= fun ms => R.ok (m :: ms)) >>= fun ms => R.ok (m :: ms)) >>= mTup)))))
def number_at_f (C_Disk : Addr) : List M → R M := defP 2 5 (number_at_b C_Disk)
def frame_at_b (C_Disk : Addr) : DL.Env → R Fl :=
  (seqS (setS 2 fun ρ => ((getV ρ 0 >>= fun m => (getV ρ 1 >>= fun m => R.ok [] >>= fun ms => R.ok (m :: ms)) >>= fun ms => R.ok (m :: ms)) >>= (number_at_f C_Disk)))
  (seqS (setS 3 fun ρ => (rIf ((getV ρ 2 >>= fun x => R.ok mN >>= fun y => oIsN x y >>= asB)) (fun _ => R.ok mN) fun _ => ((getV ρ 0 >>= fun m => ((getV ρ 2 >>= fun x => R.ok (mI 1) >>= fun y => ixM x y) >>= fun m => R.ok [] >>= fun ms => R.ok (m :: ms)) >>= fun ms => R.ok (m :: ms)) >>= (number_at_f C_Disk))))
  (seqS (ifS (fun ρ => (getV ρ 3 >>= fun x => R.ok mN >>= fun y => oIsN x y >>= asB))
  (retS fun ρ => R.ok mN)
  nextS)
  (seqS (setS 4 fun ρ => (getV ρ 0 >>= fun x => ((getV ρ 3 >>= fun x => R.ok (mI 1) >>= fun y => ixM x y) >>= fun m => intR m >>= fun i => R.ok (some i)) >>= fun l => (((getV ρ 3 >>= fun x => R.ok (mI 1) >>= fun y => ixM x y) >>= fun x => (getV ρ 2 >>= fun x => R.ok (mI 0) >>= fun y => ixM x y) >>= fun y => oAdd x y) >>= fun m => intR m >>= fun i => R.ok (some i)) >>= fun u => cutM x l u))
  (seqS (setS 5 fun ρ => (((getV ρ 3 >>= fun x => R.ok (mI 1) >>= fun y => ixM x y) >>= fun x => (getV ρ 2 >>= fun x => R.ok (mI 0) >>= fun y => ixM x y) >>= fun y => oAdd x y) >>= fun x => R.ok (mI 1) >>= fun y => oAdd x y))
  (seqS (setS 6 fun ρ => ((getV ρ 0 >>= fun x => (getV ρ 1 >>= fun m => intR m >>= fun i => R.ok (some i)) >>= fun l => (getV ρ 5 >>= fun m => intR m >>= fun i => R.ok (some i)) >>= fun u => cutM x l u) >>= fun x => ((getV ρ 4 >>= fun m => R.ok [] >>= fun ms => R.ok (m :: ms)) >>= (framed_f C_Disk)) >>= fun y => oEq x y))
  (retS fun ρ => (rIf ((getV ρ 6 >>= asB)) (fun _ => (((getV ρ 4 >>= asIm) >>= fun m => ((getV ρ 5 >>= asIm) >>= fun m => R.ok [] >>= fun ms => R.ok (m :: ms)) >>= fun ms => R.ok (m :: ms)) >>= mTup)) fun _ => R.ok mN))))))))
def frame_at_f (C_Disk : Addr) : List M → R M := defP 2 7 (frame_at_b C_Disk)
def frames_in_b (C_Disk : Addr) : DL.Env → R Fl :=
  (seqS (parS [1, 2, 3] fun ρ => ((R.ok [] >>= mLst) >>= fun m => (R.ok (mI 0) >>= fun m => (((getV ρ 0 >>= fun m => (R.ok (mI 0) >>= fun m => R.ok [] >>= fun ms => R.ok (m :: ms)) >>= fun ms => R.ok (m :: ms)) >>= (frame_at_f C_Disk)) >>= fun m => R.ok [] >>= fun ms => R.ok (m :: ms)) >>= fun ms => R.ok (m :: ms)) >>= fun ms => R.ok (m :: ms)))
  (seqS (whileR (fun ρ => (getV ρ 3 >>= fun x => R.ok mN >>= fun y => oNotN x y >>= asB))
  (seqS (dropX (fun ρ => (((getV ρ 3 >>= fun x => R.ok (mI 0) >>= fun y => ixM x y) >>= asIm) >>= fun m => R.ok [] >>= fun ms => R.ok (m :: ms)) >>= fun ms => plX 1 [] (fun n => appM n ms) ρ))
  (seqS (setS 2 fun ρ => ((getV ρ 3 >>= fun x => R.ok (mI 1) >>= fun y => ixM x y) >>= asIm))
  (setS 3 fun ρ => ((getV ρ 0 >>= fun m => (getV ρ 2 >>= fun m => R.ok [] >>= fun ms => R.ok (m :: ms)) >>= fun ms => R.ok (m :: ms)) >>= (frame_at_f C_Disk))))) 100000)
  (retS fun ρ => ((((getV ρ 1 >>= fun m => R.ok [] >>= fun ms => R.ok (m :: ms)) >>= tupleM) >>= fun m => ((((getV ρ 0 >>= fun m => R.ok [] >>= fun ms => R.ok (m :: ms)) >>= lenM) >>= fun x => getV ρ 2 >>= fun y => oSub x y) >>= fun m => R.ok [] >>= fun ms => R.ok (m :: ms)) >>= fun ms => R.ok (m :: ms)) >>= mTup))))
def frames_in_f (C_Disk : Addr) : List M → R M := defP 1 4 (frames_in_b C_Disk)
def _law_first_frame_b (C_Disk : Addr) : DL.Env → R Fl :=
  (seqS (setS 1 fun ρ => (getV ρ 0 >>= fun m => (R.ok (mS " ") >>= fun m => R.ok [] >>= fun ms => R.ok (m :: ms)) >>= fun ms => splitM m ms))
  (seqS (ifS (fun ρ => (rOr ((((getV ρ 1 >>= fun m => R.ok [] >>= fun ms => R.ok (m :: ms)) >>= lenM) >>= fun x => R.ok (mI 3) >>= fun y => oLt x y >>= asB)) fun _ => (rOr (((((getV ρ 1 >>= fun x => R.ok (mI 0) >>= fun y => ixM x y) >>= fun m => isdigitM m []) >>= asB) >>= fun b => R.ok (!b))) fun _ => (rOr (((((getV ρ 1 >>= fun x => R.ok (mI 0) >>= fun y => ixM x y) >>= fun m => R.ok [] >>= fun ms => R.ok (m :: ms)) >>= lenM) >>= fun x => R.ok (mI 6) >>= fun y => oGt x y >>= asB)) fun _ => ((((((getV ρ 1 >>= fun x => R.ok (mI 0) >>= fun y => ixM x y) >>= fun m => R.ok [] >>= fun ms => R.ok (m :: ms)) >>= intM) >>= fun m => R.ok [] >>= fun ms => R.ok (m :: ms)) >>= strM) >>= fun x => (getV ρ 1 >>= fun x => R.ok (mI 0) >>= fun y => ixM x y) >>= fun y => oNe x y >>= asB)))))
  (retS fun ρ => R.ok mN)
  nextS)
  (seqS (setS 2 fun ρ => (((((getV ρ 1 >>= fun x => R.ok (mI 0) >>= fun y => ixM x y) >>= fun m => R.ok [] >>= fun ms => R.ok (m :: ms)) >>= lenM) >>= fun x => (((getV ρ 1 >>= fun x => R.ok (mI 1) >>= fun y => ixM x y) >>= fun m => R.ok [] >>= fun ms => R.ok (m :: ms)) >>= lenM) >>= fun y => oAdd x y) >>= fun x => R.ok (mI 2) >>= fun y => oAdd x y))
  (seqS (setS 3 fun ρ => (getV ρ 0 >>= fun x => (getV ρ 2 >>= fun m => intR m >>= fun i => R.ok (some i)) >>= fun l => ((getV ρ 2 >>= fun x => (((getV ρ 1 >>= fun x => R.ok (mI 0) >>= fun y => ixM x y) >>= fun m => R.ok [] >>= fun ms => R.ok (m :: ms)) >>= intM) >>= fun y => oAdd x y) >>= fun m => intR m >>= fun i => R.ok (some i)) >>= fun u => cutM x l u))
  (seqS (setS 4 fun ρ => ((getV ρ 3 >>= fun m => R.ok [] >>= fun ms => R.ok (m :: ms)) >>= (_law_framed_f C_Disk)))
  (retS fun ρ => (rIf ((rAnd (((getV ρ 0 >>= fun x => R.ok none >>= fun l => (((getV ρ 4 >>= fun m => R.ok [] >>= fun ms => R.ok (m :: ms)) >>= lenM) >>= fun m => intR m >>= fun i => R.ok (some i)) >>= fun u => cutM x l u) >>= fun x => getV ρ 4 >>= fun y => oEq x y >>= asB)) fun _ => (((getV ρ 3 >>= fun m => R.ok [] >>= fun ms => R.ok (m :: ms)) >>= lenM) >>= fun x => (((getV ρ 1 >>= fun x => R.ok (mI 0) >>= fun y => ixM x y) >>= fun m => R.ok [] >>= fun ms => R.ok (m :: ms)) >>= intM) >>= fun y => oEq x y >>= asB))) (fun _ => (((getV ρ 3 >>= asIm) >>= fun m => ((getV ρ 0 >>= fun x => (((getV ρ 4 >>= fun m => R.ok [] >>= fun ms => R.ok (m :: ms)) >>= lenM) >>= fun m => intR m >>= fun i => R.ok (some i)) >>= fun l => R.ok none >>= fun u => cutM x l u) >>= fun m => R.ok [] >>= fun ms => R.ok (m :: ms)) >>= fun ms => R.ok (m :: ms)) >>= mTup)) fun _ => R.ok mN)))))))
def _law_first_frame_f (C_Disk : Addr) : List M → R M := defP 1 5 (_law_first_frame_b C_Disk)
def _law_frames_b (C_Disk : Addr) : DL.Env → R Fl :=
  (seqS (parS [2, 3] fun ρ => ((R.ok [] >>= mLst) >>= fun m => ((getV ρ 0 >>= asIm) >>= fun m => R.ok [] >>= fun ms => R.ok (m :: ms)) >>= fun ms => R.ok (m :: ms)))
  (seqS (forS [1] (pureX fun ρ => (((((getV ρ 0 >>= fun m => R.ok [] >>= fun ms => R.ok (m :: ms)) >>= lenM) >>= fun x => R.ok (mI 1) >>= fun y => oAdd x y) >>= fun m => R.ok [] >>= fun ms => R.ok (m :: ms)) >>= rng1)) (gSet 1)
  (seqS (setS 4 fun ρ => ((getV ρ 3 >>= fun m => R.ok [] >>= fun ms => R.ok (m :: ms)) >>= (_law_first_frame_f C_Disk)))
  (seqS (ifS (fun ρ => (getV ρ 4 >>= fun x => R.ok mN >>= fun y => oIsN x y >>= asB))
  (retS fun ρ => ((((getV ρ 2 >>= fun m => R.ok [] >>= fun ms => R.ok (m :: ms)) >>= tupleM) >>= fun m => (((getV ρ 3 >>= fun m => R.ok [] >>= fun ms => R.ok (m :: ms)) >>= lenM) >>= fun m => R.ok [] >>= fun ms => R.ok (m :: ms)) >>= fun ms => R.ok (m :: ms)) >>= mTup))
  nextS)
  (seqS (dropX (fun ρ => (((getV ρ 4 >>= fun x => R.ok (mI 0) >>= fun y => ixM x y) >>= asIm) >>= fun m => R.ok [] >>= fun ms => R.ok (m :: ms)) >>= fun ms => plX 2 [] (fun n => appM n ms) ρ))
  (setS 3 fun ρ => ((getV ρ 4 >>= fun x => R.ok (mI 1) >>= fun y => ixM x y) >>= asIm))))))
  (retS fun ρ => ((((getV ρ 2 >>= fun m => R.ok [] >>= fun ms => R.ok (m :: ms)) >>= tupleM) >>= fun m => (((getV ρ 3 >>= fun m => R.ok [] >>= fun ms => R.ok (m :: ms)) >>= lenM) >>= fun m => R.ok [] >>= fun ms => R.ok (m :: ms)) >>= fun ms => R.ok (m :: ms)) >>= mTup))))
def _law_frames_f (C_Disk : Addr) : List M → R M := defP 1 5 (_law_frames_b C_Disk)
def law_b (C_Disk : Addr) : DL.Env → R Fl :=
  (seqS (setS 1 fun ρ => ((getV ρ 0 >>= fun m => R.ok [] >>= fun ms => R.ok (m :: ms)) >>= (_law_bag_f C_Disk)))
  (seqS (asgS (gTupM 3 (gConsM (gSet 6) (gConsM (gSet 7) (gConsM (gSet 8) gNilM)))) fun ρ => ((mkM C_Disk (Disk___init___f C_Disk) [] >>= fun m => (R.ok (.dic []) >>= fun m => ((R.ok [] >>= mLst) >>= fun m => R.ok [] >>= fun ms => R.ok (m :: ms)) >>= fun ms => R.ok (m :: ms)) >>= fun ms => R.ok (m :: ms)) >>= mTup))
  (seqS (forS [2] (fun ρ => (consX (fun ρ => (fun ρ => (((R.ok (mI 14) >>= fun m => (R.ok (mI 24) >>= fun m => R.ok [] >>= fun ms => R.ok (m :: ms)) >>= fun ms => R.ok (m :: ms)) >>= mLst) >>= fun m => R.ok [] >>= fun ms => R.ok (m :: ms)) >>= fun ms => plX 1 [] (fun n => (_law_some_f C_Disk) n ms) ρ) ρ >>= fun x => asI x.1 >>= fun i => R.ok (i, x.2)) (fun ρ => R.ok ([], ρ))) ρ >>= fun x => rng1 (x.1.map .im) >>= fun ms => R.ok (ms, x.2)) (gSet 2)
  (seqS (asgX (gTupM 2 (gConsM (gSet 13) (gConsM (gSet 14) gNilM))) (fun ρ => (tupX (consX (fun ρ => (fun ρ => (((R.ok (mS "a") >>= fun m => (R.ok (mS "b") >>= fun m => (R.ok (mS "log") >>= fun m => (R.ok (mS "seg") >>= fun m => R.ok [] >>= fun ms => R.ok (m :: ms)) >>= fun ms => R.ok (m :: ms)) >>= fun ms => R.ok (m :: ms)) >>= fun ms => R.ok (m :: ms)) >>= mLst) >>= fun m => R.ok [] >>= fun ms => R.ok (m :: ms)) >>= fun ms => plX 1 [] (fun n => (_law_some_f C_Disk) n ms) ρ) ρ >>= fun x => asI x.1 >>= fun i => R.ok (i, x.2)) (consX (fun ρ => (fun ρ => (R.ok (mI 6) >>= fun m => R.ok [] >>= fun ms => R.ok (m :: ms)) >>= fun ms => plX 1 [] (fun n => (_law_take_f C_Disk) n ms) ρ) ρ >>= fun x => asI x.1 >>= fun i => R.ok (i, x.2)) (fun ρ => R.ok ([], ρ))))) ρ >>= fun x => R.ok (.im x.1, x.2)))
  (seqS (ifS (fun ρ => (getV ρ 14 >>= fun x => R.ok (mI 0) >>= fun y => oEq x y >>= asB))
  (seqS (dropX (fun ρ => plX 6 [] (fun n => isObj C_Disk "sync" n >>= fun n => (Disk_sync_f C_Disk) n []) ρ))
  (parS [7, 8] fun ρ => (((getV ρ 7 >>= fun m => (getV ρ 8 >>= fun m => R.ok [] >>= fun ms => R.ok (m :: ms)) >>= fun ms => R.ok (m :: ms)) >>= (_law_files_f C_Disk)) >>= fun m => ((R.ok [] >>= mLst) >>= fun m => R.ok [] >>= fun ms => R.ok (m :: ms)) >>= fun ms => R.ok (m :: ms))))
  (ifS (fun ρ => (getV ρ 14 >>= fun x => R.ok (mI 1) >>= fun y => oEq x y >>= asB))
  (ifS (fun ρ => ((getV ρ 13 >>= fun x => ((getV ρ 7 >>= fun m => (getV ρ 8 >>= fun m => R.ok [] >>= fun ms => R.ok (m :: ms)) >>= fun ms => R.ok (m :: ms)) >>= (_law_files_f C_Disk)) >>= fun y => hasKey y x >>= fun r => R.ok (mB r)) >>= asB))
  (seqS (dropX (fun ρ => (getV ρ 13 >>= fun m => R.ok [] >>= fun ms => R.ok (m :: ms)) >>= fun ms => plX 6 [] (fun n => isObj C_Disk "drop" n >>= fun n => (Disk_drop_f C_Disk) n ms) ρ))
  (dropX (fun ρ => ((((getV ρ 13 >>= asIm) >>= fun m => (R.ok (mS "") >>= fun m => R.ok [] >>= fun ms => R.ok (m :: ms)) >>= fun ms => R.ok (m :: ms)) >>= mTup) >>= fun m => R.ok [] >>= fun ms => R.ok (m :: ms)) >>= fun ms => plX 8 [] (fun n => appM n ms) ρ)))
  nextS)
  (seqS (setX 17 (fun ρ => (((R.ok (mS "x") >>= fun m => (R.ok (mS "one two") >>= fun m => (R.ok (mS "3 7") >>= fun m => (R.ok (mS "\n") >>= fun m => (R.ok (mS "zz\n") >>= fun m => R.ok [] >>= fun ms => R.ok (m :: ms)) >>= fun ms => R.ok (m :: ms)) >>= fun ms => R.ok (m :: ms)) >>= fun ms => R.ok (m :: ms)) >>= fun ms => R.ok (m :: ms)) >>= mLst) >>= fun m => R.ok [] >>= fun ms => R.ok (m :: ms)) >>= fun ms => plX 1 [] (fun n => (_law_some_f C_Disk) n ms) ρ))
  (seqS (dropX (fun ρ => (getV ρ 13 >>= fun m => (getV ρ 17 >>= fun m => R.ok [] >>= fun ms => R.ok (m :: ms)) >>= fun ms => R.ok (m :: ms)) >>= fun ms => plX 6 [] (fun n => isObj C_Disk "add" n >>= fun n => (Disk_add_f C_Disk) n ms) ρ))
  (dropX (fun ρ => ((lcM [19] (fun ρ => (getV ρ 17 >>= itemsM)) (gSet 19) yesM (fun ρ => (((getV ρ 13 >>= asIm) >>= fun m => ((getV ρ 19 >>= asIm) >>= fun m => R.ok [] >>= fun ms => R.ok (m :: ms)) >>= fun ms => R.ok (m :: ms)) >>= mTup)) ρ) >>= fun m => R.ok [] >>= fun ms => R.ok (m :: ms)) >>= fun ms => plX 8 [] (fun n => extM n ms) ρ))))))
  (seqS (setS 9 fun ρ => ((getV ρ 7 >>= fun m => (getV ρ 8 >>= fun m => R.ok [] >>= fun ms => R.ok (m :: ms)) >>= fun ms => R.ok (m :: ms)) >>= (_law_files_f C_Disk)))
  (seqS (ifS (fun ρ => (((((((getV ρ 6 >>= fun a => isObj C_Disk "names" a >>= fun a => (Disk_names_f C_Disk) [a]) >>= fun m => ((getV ρ 6 >>= fun a => isObj C_Disk "loose" a >>= fun a => (Disk_loose_f C_Disk) [a]) >>= fun m => R.ok [] >>= fun ms => R.ok (m :: ms)) >>= fun ms => R.ok (m :: ms)) >>= mLst) >>= fun m => (((((((getV ρ 9 >>= fun m => R.ok [] >>= fun ms => R.ok (m :: ms)) >>= sortedM) >>= fun m => R.ok [] >>= fun ms => R.ok (m :: ms)) >>= tupleM) >>= fun m => (((getV ρ 8 >>= fun m => R.ok [] >>= fun ms => R.ok (m :: ms)) >>= lenM) >>= fun m => R.ok [] >>= fun ms => R.ok (m :: ms)) >>= fun ms => R.ok (m :: ms)) >>= mLst) >>= fun m => R.ok [] >>= fun ms => R.ok (m :: ms)) >>= fun ms => R.ok (m :: ms)) >>= (_law_alike_f C_Disk)) >>= asB) >>= fun b => R.ok (!b)))
  (retS fun ρ => R.ok (mB false))
  nextS)
  (seqS (ifS (fun ρ => ((lcM [18] (fun ρ => (((R.ok (mS "a") >>= fun m => (R.ok (mS "b") >>= fun m => (R.ok (mS "log") >>= fun m => (R.ok (mS "seg") >>= fun m => (R.ok (mS "no") >>= fun m => R.ok [] >>= fun ms => R.ok (m :: ms)) >>= fun ms => R.ok (m :: ms)) >>= fun ms => R.ok (m :: ms)) >>= fun ms => R.ok (m :: ms)) >>= fun ms => R.ok (m :: ms)) >>= mTup) >>= itemsM)) (gSet 18) (fun ρ => ((getV ρ 6 >>= fun a => isObj C_Disk "text" a >>= fun a => (getV ρ 18 >>= fun m => R.ok [] >>= fun ms => R.ok (m :: ms)) >>= fun ms => (Disk_text_f C_Disk) (a :: ms)) >>= fun x => (getV ρ 9 >>= fun x => getV ρ 18 >>= fun y => R.ok (mS "") >>= fun z => dGet2 x y z) >>= fun y => oNe x y >>= asB)) (fun ρ => R.ok (mI 1)) ρ) >>= fun x => (R.ok [] >>= mLst) >>= fun y => oNe x y >>= asB))
  (retS fun ρ => R.ok (mB false))
  nextS)
  (seqS (setX 10 (fun ρ => ((((getV ρ 8 >>= fun m => R.ok [] >>= fun ms => R.ok (m :: ms)) >>= lenM) >>= fun x => R.ok (mI 1) >>= fun y => oAdd x y) >>= fun m => R.ok [] >>= fun ms => R.ok (m :: ms)) >>= fun ms => plX 1 [] (fun n => (_law_take_f C_Disk) n ms) ρ))
  (seqS (asgS (gTupM 2 (gConsM (gSet 15) (gConsM (gSet 16) gNilM))) fun ρ => (((getV ρ 6 >>= fun a => isObj C_Disk "crashed" a >>= fun a => (getV ρ 10 >>= fun m => R.ok [] >>= fun ms => R.ok (m :: ms)) >>= fun ms => (Disk_crashed_f C_Disk) (a :: ms)) >>= fun m => (((getV ρ 7 >>= fun m => ((getV ρ 8 >>= fun x => R.ok none >>= fun l => (getV ρ 10 >>= fun m => intR m >>= fun i => R.ok (some i)) >>= fun u => cutM x l u) >>= fun m => R.ok [] >>= fun ms => R.ok (m :: ms)) >>= fun ms => R.ok (m :: ms)) >>= (_law_files_f C_Disk)) >>= fun m => R.ok [] >>= fun ms => R.ok (m :: ms)) >>= fun ms => R.ok (m :: ms)) >>= mTup))
  (seqS (ifS (fun ρ => (rOr (((getV ρ 15 >>= fun a => isObj C_Disk "names" a >>= fun a => (Disk_names_f C_Disk) [a]) >>= fun x => ((((getV ρ 16 >>= fun m => R.ok [] >>= fun ms => R.ok (m :: ms)) >>= sortedM) >>= fun m => R.ok [] >>= fun ms => R.ok (m :: ms)) >>= tupleM) >>= fun y => oNe x y >>= asB)) fun _ => ((lcM [18] (fun ρ => (plM 16 [] ρ >>= wkM .keys)) (gSet 18) (fun ρ => ((getV ρ 15 >>= fun a => isObj C_Disk "text" a >>= fun a => (getV ρ 18 >>= fun m => R.ok [] >>= fun ms => R.ok (m :: ms)) >>= fun ms => (Disk_text_f C_Disk) (a :: ms)) >>= fun x => (getV ρ 16 >>= fun x => getV ρ 18 >>= fun y => dItem x y) >>= fun y => oNe x y >>= asB)) (fun ρ => R.ok (mI 1)) ρ) >>= fun x => (R.ok [] >>= mLst) >>= fun y => oNe x y >>= asB)))
  (retS fun ρ => R.ok (mB false))
  nextS)
  (ifS (fun ρ => (rOr (((getV ρ 15 >>= fun x => getV ρ 6 >>= fun y => ownEq C_Disk (Disk___eq___f C_Disk) x y) >>= fun x => (getV ρ 16 >>= fun x => getV ρ 9 >>= fun y => oEq x y) >>= fun y => oNe x y >>= asB)) fun _ => (getV ρ 6 >>= fun x => R.ok (mI 3) >>= fun y => ownEq C_Disk (Disk___eq___f C_Disk) x y >>= asB)))
  (retS fun ρ => R.ok (mB false))
  nextS))))))))))
  (seqS (setX 3 (lcX [2] (fun ρ => (consX (opX (pureX fun ρ => R.ok (mI 1) >>= asI) (fun ρ => (fun ρ => (R.ok (mI 4) >>= fun m => R.ok [] >>= fun ms => R.ok (m :: ms)) >>= fun ms => plX 1 [] (fun n => (_law_take_f C_Disk) n ms) ρ) ρ >>= fun x => asI x.1 >>= fun i => R.ok (i, x.2)) oAdd) (fun ρ => R.ok ([], ρ))) ρ >>= fun x => rng1 (x.1.map .im) >>= fun ms => R.ok (ms, x.2)) (gSet 2) yesM (fun ρ => (((R.ok (mS "") >>= fun m => (R.ok (mS "ab") >>= fun m => (R.ok (mS "1 2 3") >>= fun m => (R.ok (mS "a\nb") >>= fun m => (R.ok (mS "9") >>= fun m => (R.ok (mS "12 34 ab\n") >>= fun m => R.ok [] >>= fun ms => R.ok (m :: ms)) >>= fun ms => R.ok (m :: ms)) >>= fun ms => R.ok (m :: ms)) >>= fun ms => R.ok (m :: ms)) >>= fun ms => R.ok (m :: ms)) >>= fun ms => R.ok (m :: ms)) >>= mLst) >>= fun m => R.ok [] >>= fun ms => R.ok (m :: ms)) >>= fun ms => plX 1 [] (fun n => (_law_some_f C_Disk) n ms) ρ)))
  (seqS (setS 4 fun ρ => (R.ok (mS "") >>= fun m => ((lcM [17] (fun ρ => (getV ρ 3 >>= itemsM)) (gSet 17) yesM (fun ρ => ((getV ρ 17 >>= fun m => R.ok [] >>= fun ms => R.ok (m :: ms)) >>= (_law_framed_f C_Disk))) ρ) >>= fun m => R.ok [] >>= fun ms => R.ok (m :: ms)) >>= fun ms => joinM m ms))
  (seqS (ifS (fun ρ => ((lcM [17] (fun ρ => (getV ρ 3 >>= itemsM)) (gSet 17) yesM (fun ρ => ((getV ρ 17 >>= fun m => R.ok [] >>= fun ms => R.ok (m :: ms)) >>= (framed_f C_Disk))) ρ) >>= fun x => (lcM [17] (fun ρ => (getV ρ 3 >>= itemsM)) (gSet 17) yesM (fun ρ => ((getV ρ 17 >>= fun m => R.ok [] >>= fun ms => R.ok (m :: ms)) >>= (_law_framed_f C_Disk))) ρ) >>= fun y => oNe x y >>= asB))
  (retS fun ρ => R.ok (mB false))
  nextS)
  (seqS (ifS (fun ρ => ((((((getV ρ 4 >>= fun m => R.ok [] >>= fun ms => R.ok (m :: ms)) >>= (frames_in_f C_Disk)) >>= fun m => (((((getV ρ 3 >>= fun m => R.ok [] >>= fun ms => R.ok (m :: ms)) >>= tupleM) >>= fun m => (R.ok (mI 0) >>= fun m => R.ok [] >>= fun ms => R.ok (m :: ms)) >>= fun ms => R.ok (m :: ms)) >>= mTup) >>= fun m => R.ok [] >>= fun ms => R.ok (m :: ms)) >>= fun ms => R.ok (m :: ms)) >>= (_law_alike_f C_Disk)) >>= asB) >>= fun b => R.ok (!b)))
  (retS fun ρ => R.ok (mB false))
  nextS)
  (seqS (forS [5] (pureX fun ρ => (((((getV ρ 4 >>= fun m => R.ok [] >>= fun ms => R.ok (m :: ms)) >>= lenM) >>= fun x => R.ok (mI 1) >>= fun y => oAdd x y) >>= fun m => R.ok [] >>= fun ms => R.ok (m :: ms)) >>= rng1)) (gSet 5)
  (ifS (fun ρ => (((((((getV ρ 4 >>= fun x => R.ok none >>= fun l => (getV ρ 5 >>= fun m => intR m >>= fun i => R.ok (some i)) >>= fun u => cutM x l u) >>= fun m => R.ok [] >>= fun ms => R.ok (m :: ms)) >>= (frames_in_f C_Disk)) >>= fun m => ((((getV ρ 4 >>= fun x => R.ok none >>= fun l => (getV ρ 5 >>= fun m => intR m >>= fun i => R.ok (some i)) >>= fun u => cutM x l u) >>= fun m => R.ok [] >>= fun ms => R.ok (m :: ms)) >>= (_law_frames_f C_Disk)) >>= fun m => R.ok [] >>= fun ms => R.ok (m :: ms)) >>= fun ms => R.ok (m :: ms)) >>= (_law_alike_f C_Disk)) >>= asB) >>= fun b => R.ok (!b)))
  (retS fun ρ => R.ok (mB false))
  nextS))
  (seqS (forS [2] (pureX fun ρ => ((R.ok (mI 8) >>= fun m => R.ok [] >>= fun ms => R.ok (m :: ms)) >>= rng1)) (gSet 2)
  (seqS (setX 11 (fun ρ => (((getV ρ 4 >>= fun m => R.ok [] >>= fun ms => R.ok (m :: ms)) >>= lenM) >>= fun m => R.ok [] >>= fun ms => R.ok (m :: ms)) >>= fun ms => plX 1 [] (fun n => (_law_take_f C_Disk) n ms) ρ))
  (seqS (setX 12 (fun ρ => (opX (opX (pureX fun ρ => (getV ρ 4 >>= fun x => R.ok none >>= fun l => (getV ρ 11 >>= fun m => intR m >>= fun i => R.ok (some i)) >>= fun u => cutM x l u) >>= asI) (fun ρ => (fun ρ => (((R.ok (mS "x") >>= fun m => (R.ok (mS "0") >>= fun m => (R.ok (mS " ") >>= fun m => (R.ok (mS "\n") >>= fun m => (R.ok (mS "7") >>= fun m => R.ok [] >>= fun ms => R.ok (m :: ms)) >>= fun ms => R.ok (m :: ms)) >>= fun ms => R.ok (m :: ms)) >>= fun ms => R.ok (m :: ms)) >>= fun ms => R.ok (m :: ms)) >>= mLst) >>= fun m => R.ok [] >>= fun ms => R.ok (m :: ms)) >>= fun ms => plX 1 [] (fun n => (_law_some_f C_Disk) n ms) ρ) ρ >>= fun x => asI x.1 >>= fun i => R.ok (i, x.2)) oAdd) (pureX fun ρ => (getV ρ 4 >>= fun x => ((getV ρ 11 >>= fun x => R.ok (mI 1) >>= fun y => oAdd x y) >>= fun m => intR m >>= fun i => R.ok (some i)) >>= fun l => R.ok none >>= fun u => cutM x l u) >>= asI) oAdd) ρ >>= fun x => R.ok (.im x.1, x.2)))
  (ifS (fun ρ => ((((((getV ρ 12 >>= fun m => R.ok [] >>= fun ms => R.ok (m :: ms)) >>= (frames_in_f C_Disk)) >>= fun m => (((getV ρ 12 >>= fun m => R.ok [] >>= fun ms => R.ok (m :: ms)) >>= (_law_frames_f C_Disk)) >>= fun m => R.ok [] >>= fun ms => R.ok (m :: ms)) >>= fun ms => R.ok (m :: ms)) >>= (_law_alike_f C_Disk)) >>= asB) >>= fun b => R.ok (!b)))
  (retS fun ρ => R.ok (mB false))
  nextS))))
  (retS fun ρ => R.ok (mB true)))))))))))
def law_f (C_Disk : Addr) : List M → R M := defP 1 20 (law_b C_Disk)
/-! ### what the text's names stand for -/
structure Txt (K : PySem.W.Frag) (mg : Str → Option Value) (C_Disk : Addr) : Prop where
  b_abs : mg "abs" = none
  b_all : mg "all" = none
  b_dict : mg "dict" = none
  b_enumerate : mg "enumerate" = none
  b_int : mg "int" = none
  b_isinstance : mg "isinstance" = none
  b_len : mg "len" = none
  b_list : mg "list" = none
  b_min : mg "min" = none
  b_ord : mg "ord" = none
  b_range : mg "range" = none
  b_repr : mg "repr" = none
  b_sorted : mg "sorted" = none
  b_str : mg "str" = none
  b_sum : mg "sum" = none
  b_tuple : mg "tuple" = none
  c_CHECK : ∃ t, mg "CHECK" = some (.int 9973 t)
  cl_Disk : Cls K C_Disk
  g_Disk : mg "Disk" = some (.ref C_Disk)
  n_Disk_its_since : NoAttr K C_Disk "its_since"
  n_Disk_its_sure : NoAttr K C_Disk "its_sure"
  i_Disk : InsF K C_Disk
section
variable {P : Program} {w : World} {K : PySem.W.Frag} {mg : Str → Option Value} {base : Heap} {C_Disk : Addr}
theorem sc__law_bag : FnScope _law_bag_N ["script"] (defScope s__law_bag) := ⟨rfl, rfl, rfl, by decide +kernel, rfl, by decide +kernel, by decide +kernel⟩
theorem ok__law_bag {f : Addr} {fd : FuncData} (Fu : Fun K "_law_bag" "_law_bag" s__law_bag f fd) (T : Txt K mg C_Disk)  :
    FnOk P w K mg base CX0 1 f fd ["script"] (spP K (_law_bag_f C_Disk)) := by
  have S := sc__law_bag
  exact fn_pure (N := _law_bag_N) (ps := ["script"]) (k := 0) (md := [.ro, .any]) (fb := _law_bag_b C_Disk) Fu S rfl (by decide) (by decide) fun cdv A outer s H E hr =>
    ((pssd_one (psd_ret (by decide) (pd_lst (pdo_cons pd_int (pdo_cons pd_int (pdo_cons pd_int (pdo_cons (pd_lc (own := [("cell", 1)]) rfl S.nd (blkOk_by (own := [("cell", 1)]) (N := _law_bag_N) (sc := defScope s__law_bag) (by decide +kernel)) (pid_seq (pd_cut (pd_var 0) pod_none (pod_some pd_int))) (fun _ _ _ _ _ => (pgs_s S.nd rfl (Or.inl rfl) (by decide))) (fun _ _ _ _ _ => ptsd_nil) (fun _ _ _ _ _ => (pd_callB c_abs rfl T.b_abs bb_abs (pda_cons (pd_var 1) pda_nil)))) pdo_nil))))))))
theorem sc_Disk___init__ : FnScope Disk___init___N ["self"] (defScope s_Disk___init__) := ⟨rfl, rfl, rfl, by decide +kernel, rfl, by decide +kernel, by decide +kernel⟩
theorem ok_Disk___init__ {f : Addr} {fd : FuncData} (Fu : Fun K "__init__" "Disk.__init__" s_Disk___init__ f fd) (T : Txt K mg C_Disk)  :
    FnOk P w K mg base CX0 1 f fd ["self"] (spX K (Disk___init___f C_Disk)) := by
  have S := sc_Disk___init__
  exact fn_io (N := Disk___init___N) (ps := ["self"]) (k := 0) (md := [.io]) (fb := Disk___init___b C_Disk) Fu S rfl (by decide) rfl (par_by (by decide)) fun cdv A outer s H E hr =>
    ((pssd_one (psd_fld2 rfl (.inr rfl) (pp_var (i := 0)) (pp_var (i := 0)) T.cl_Disk T.n_Disk_its_sure T.n_Disk_its_since (pd_tup (pdo_cons pd_dic0 (pdo_cons (pd_lst pdo_nil) pdo_nil))))))
theorem sc__law_take : FnScope _law_take_N ["bag", "many"] (defScope s__law_take) := ⟨rfl, rfl, rfl, by decide +kernel, rfl, by decide +kernel, by decide +kernel⟩
theorem ok__law_take {f : Addr} {fd : FuncData} (Fu : Fun K "_law_take" "_law_take" s__law_take f fd) (T : Txt K mg C_Disk)  :
    FnOk P w K mg base CX0 1 f fd ["bag", "many"] (spX K (_law_take_f C_Disk)) := by
  have S := sc__law_take
  exact fn_io (N := _law_take_N) (ps := ["bag", "many"]) (k := 0) (md := [.io, .ro, .loc, .loc, .loc, .loc, .loc]) (fb := _law_take_b C_Disk) Fu S rfl (by decide) rfl (par_by (by decide)) fun cdv A outer s H E hr =>
    ((pssd_cons (psd_if (ptd_cmpn (o_eqn hr.units) (pd_ixm (pd_var 0) pd_int) pd_int)
      (pssd_cons (psd_set S.nd rfl (Or.inl rfl) (.inl rfl) (pd_ixm (pd_op o_add (pd_cut (pd_ixm (pd_var 0) pd_int) (pod_some (pd_ixm (pd_var 0) pd_int)) pod_none) (pd_lst (pdo_cons pd_int pdo_nil))) pd_int))
      (pssd_cons (psd_augItL (.inr rfl) (pp_var (i := 0)) pd_int pd_int (pip_of rfl io_addI))
      (pssd_cons (psd_if (ptd_cmp o_ge (pd_var 4) (pd_op o_pow pd_int pd_int))
      (pssd_one (psd_setItL (.inr rfl) (pp_var (i := 0)) pd_int (pd_im (pd_var 4))))
      pssd_nil)
      (pssd_cons (psd_set S.nd rfl (Or.inl rfl) (.inl rfl) (pd_op o_add (pd_op o_add (pd_op o_mulI (pd_ixm (pd_var 0) pd_int) pd_int) (pd_op o_mod (pd_callTy c_int rfl T.b_int bb_int (pda_cons (pd_var 4) pda_nil)) pd_int)) (pd_op o_mulI pd_int (pd_ixm (pd_var 0) pd_int))))
      (pssd_one (psd_setItL (.inr rfl) (pp_var (i := 0)) pd_int (pd_op o_mod (pd_callTy c_int rfl T.b_int bb_int (pda_cons (pd_var 5) pda_nil)) pd_int)))))))
      pssd_nil)
      (pssd_cons (psd_if (ptd_cmp o_gt (pd_ixm (pd_var 0) pd_int) pd_int)
      (pssd_cons (psd_set S.nd rfl (Or.inl rfl) (.inl rfl) (pd_op o_mod (pd_callTy c_int rfl T.b_int bb_int (pda_cons (pd_ixm (pd_var 0) pd_int) pda_nil)) (pd_var 1)))
      (pssd_cons (psd_setItL (.inr rfl) (pp_var (i := 0)) pd_int (pd_op o_div (pd_callTy c_int rfl T.b_int bb_int (pda_cons (pd_ixm (pd_var 0) pd_int) pda_nil)) (pd_var 1)))
      (pssd_one (psd_ret (by decide) (pd_var 6)))))
      pssd_nil)
      (pssd_cons (psd_set S.nd rfl (Or.inl rfl) (.inl rfl) (pd_op o_mod (pd_callTy c_int rfl T.b_int bb_int (pda_cons (pd_op o_mulI (pd_op o_add (pd_ixm (pd_var 0) pd_int) pd_int) pd_int) pda_nil)) pd_int))
      (pssd_cons (psd_set S.nd rfl (Or.inl rfl) (.inl rfl) (pd_op o_mod (pd_callTy c_int rfl T.b_int bb_int (pda_cons (pd_op o_mulI (pd_op o_mod (pd_callTy c_int rfl T.b_int bb_int (pda_cons (pd_op o_mulI (pd_var 2) (pd_var 2)) pda_nil)) pd_int) pd_int) pda_nil)) pd_int))
      (pssd_one (psd_ret (by decide) (pd_op o_mod (pd_callTy c_int rfl T.b_int bb_int (pda_cons (pd_op o_div (pd_var 3) pd_int) pda_nil)) (pd_var 1)))))))))
theorem sc__law_some : FnScope _law_some_N ["bag", "things"] (defScope s__law_some) := ⟨rfl, rfl, rfl, by decide +kernel, rfl, by decide +kernel, by decide +kernel⟩
theorem ok__law_some {f : Addr} {fd : FuncData} (Fu : Fun K "_law_some" "_law_some" s__law_some f fd) (T : Txt K mg C_Disk) (h__law_take : GfX P w K mg base 1 "_law_take" (_law_take_f C_Disk)) :
    FnOk P w K mg base CX0 2 f fd ["bag", "things"] (spX K (_law_some_f C_Disk)) := by
  have S := sc__law_some
  exact fn_io (N := _law_some_N) (ps := ["bag", "things"]) (k := 1) (md := [.io, .ro]) (fb := _law_some_b C_Disk) Fu S rfl (by decide) rfl (par_by (by decide)) fun cdv A outer s H E hr =>
    ((pssd_one (psxd_ret (pxd_of (pxi_ixU (md' := [.io, .ro]) (cmp_by (by decide)) (no_by (by decide)) (by decide) o_ixI (pd_var 1) (pxi_of (pxd_fn (.inr rfl) (by decide) h__law_take (hr.mono (by decide)) rfl (pp_var (i := 0)) (pda_cons (pd_callB c_len rfl T.b_len bb_len (pda_cons (pd_var 1) pda_nil)) pda_nil))) (by intro _ _; rfl))))))
theorem sc_Disk_done : FnScope Disk_done_N ["self", "many"] (defScope s_Disk_done) := ⟨rfl, rfl, rfl, by decide +kernel, rfl, by decide +kernel, by decide +kernel⟩
theorem ok_Disk_done {f : Addr} {fd : FuncData} (Fu : Fun K "done" "Disk.done" s_Disk_done f fd) (T : Txt K mg C_Disk)  :
    FnOk P w K mg base CX0 1 f fd ["self", "many"] (spP K (Disk_done_f C_Disk)) := by
  have S := sc_Disk_done
  exact fn_pure (N := Disk_done_N) (ps := ["self", "many"]) (k := 0) (md := [.ro, .ro, .loc, .loc, .any, .any]) (fb := Disk_done_b C_Disk) Fu S rfl (by decide) (by decide) fun cdv A outer s H E hr =>
    ((pssd_cons (psd_par2 rfl S.nd rfl rfl (by decide) rfl rfl (.inl rfl) (.inl rfl) (pdo_cons (pd_callTy (c_dict rfl) rfl T.b_dict bb_dict (pda_cons (pd_fld (pd_var 0) T.cl_Disk T.n_Disk_its_sure) pda_nil)) (pdo_cons (pd_im (pd_var 1)) pdo_nil)) rfl)
      (pssd_cons (psd_for [.ro, .ro, .loc, .loc, .any, .any] [4, 5] PassesOwn.never rfl (cmp_by (by decide)) (by decide) (any_by (by decide)) (wip_by (by decide)) (pix_pure (pid_seq (pd_fld (pd_var 0) T.cl_Disk T.n_Disk_its_since))) (pgd_tup rfl (pgsd_cons (pgd_any S.nd rfl (Or.inl rfl) rfl) (pgsd_cons (pgd_any S.nd rfl (Or.inl rfl) rfl) pgsd_nil)))
      (pssd_cons (psd_if (ptd_cmpn (o_eqn hr.units) (pd_var 3) pd_int)
      (pssd_one psd_break)
      pssd_nil)
      (pssd_one (psd_if (ptd_cmp o_isN (pd_var 5) pd_non)
      (pssd_cons (psxd_drop (pxd_popD (.inl rfl) (pp_var (i := 2)) (pd_var 4) pd_non ⟨rfl, rfl, rfl, rfl⟩))
      (pssd_one (psd_aug S.nd rfl (Or.inl rfl) (.inl rfl) pd_int (pip_of rfl io_sub))))
      (pssd_cons (psd_setItD (hu_of hr) (.inl rfl) (pp_var (i := 2)) (pd_var 4) (pd_op o_add (pd_get2 (hu_of hr) (pd_var 2) (pd_var 4) pd_str ⟨rfl, rfl, rfl, rfl⟩) (pd_cut (pd_var 5) pod_none (pod_some (pd_var 3)))))
      (pssd_one (psd_aug S.nd rfl (Or.inl rfl) (.inl rfl) (pd_callB (c_min2 rfl) rfl T.b_min bb_min (pda_cons (pd_var 3) (pda_cons (pd_callB c_len rfl T.b_len bb_len (pda_cons (pd_var 5) pda_nil)) pda_nil))) (pip_of rfl io_sub))))))))
      (pssd_one (psd_ret (by decide) (pd_var 2))))))
theorem sc_Disk_loose : FnScope Disk_loose_N ["self"] (defScope s_Disk_loose) := ⟨rfl, rfl, rfl, by decide +kernel, rfl, by decide +kernel, by decide +kernel⟩
theorem ok_Disk_loose {f : Addr} {fd : FuncData} (Fu : Fun K "loose" "Disk.loose" s_Disk_loose f fd) (T : Txt K mg C_Disk)  :
    FnOk P w K mg base CX0 1 f fd ["self"] (spP K (Disk_loose_f C_Disk)) := by
  have S := sc_Disk_loose
  exact fn_pure (N := Disk_loose_N) (ps := ["self"]) (k := 0) (md := [.ro, .any, .any]) (fb := Disk_loose_b C_Disk) Fu S rfl (by decide) (by decide) fun cdv A outer s H E hr =>
    ((pssd_one (psd_ret (by decide) (pd_callB (c_sum rfl) rfl T.b_sum bb_sum (pda_cons (pd_lc (own := [("name", 1), ("text", 2)]) rfl S.nd (blkOk_by (own := [("name", 1), ("text", 2)]) (N := Disk_loose_N) (sc := defScope s_Disk_loose) (by decide +kernel)) (pid_seq (pd_fld (pd_var 0) T.cl_Disk T.n_Disk_its_since)) (fun _ _ _ _ _ => (pgs_tup rfl (pgss_cons (pgs_s S.nd rfl (Or.inl rfl) (by decide)) (pgss_cons (pgs_s S.nd rfl (Or.inl rfl) (by decide)) pgss_nil)))) (fun _ _ _ _ _ => ptsd_nil) (fun _ _ _ _ _ => (pd_if (ptd_cmp o_isN (pd_var 2) pd_non) pd_int (pd_callB c_len rfl T.b_len bb_len (pda_cons (pd_var 2) pda_nil))))) pda_nil)))))
theorem sc_Disk_files : FnScope Disk_files_N ["self"] (defScope s_Disk_files) := ⟨rfl, rfl, rfl, by decide +kernel, rfl, by decide +kernel, by decide +kernel⟩
theorem ok_Disk_files {f : Addr} {fd : FuncData} (Fu : Fun K "files" "Disk.files" s_Disk_files f fd) (T : Txt K mg C_Disk) (h_Disk_done : GmP P w K mg base C_Disk 1 "done" (Disk_done_f C_Disk)) (h_Disk_loose : GmP P w K mg base C_Disk 1 "loose" (Disk_loose_f C_Disk)) :
    FnOk P w K mg base CX0 2 f fd ["self"] (spP K (Disk_files_f C_Disk)) := by
  have S := sc_Disk_files
  exact fn_pure (N := Disk_files_N) (ps := ["self"]) (k := 1) (md := [.ro]) (fb := Disk_files_b C_Disk) Fu S rfl (by decide) (by decide) fun cdv A outer s H E hr =>
    ((pssd_one (psd_ret (by decide) (pd_mt h_Disk_done T.cl_Disk (hr.mono (by decide)) (pd_var 0) (pda_cons (pd_mt0 h_Disk_loose T.cl_Disk (hr.mono (by decide)) (pd_var 0)) pda_nil)))))
theorem sc_Disk_sync : FnScope Disk_sync_N ["self"] (defScope s_Disk_sync) := ⟨rfl, rfl, rfl, by decide +kernel, rfl, by decide +kernel, by decide +kernel⟩
theorem ok_Disk_sync {f : Addr} {fd : FuncData} (Fu : Fun K "sync" "Disk.sync" s_Disk_sync f fd) (T : Txt K mg C_Disk) (h_Disk_files : GmP P w K mg base C_Disk 2 "files" (Disk_files_f C_Disk)) :
    FnOk P w K mg base CX0 3 f fd ["self"] (spX K (Disk_sync_f C_Disk)) := by
  have S := sc_Disk_sync
  exact fn_io (N := Disk_sync_N) (ps := ["self"]) (k := 2) (md := [.io]) (fb := Disk_sync_b C_Disk) Fu S rfl (by decide) rfl (par_by (by decide)) fun cdv A outer s H E hr =>
    ((pssd_one (psd_fld2 rfl (.inr rfl) (pp_var (i := 0)) (pp_var (i := 0)) T.cl_Disk T.n_Disk_its_sure T.n_Disk_its_since (pd_tup (pdo_cons (pd_mt0 h_Disk_files T.cl_Disk (hr.mono (by decide)) (pd_var 0)) (pdo_cons (pd_lst pdo_nil) pdo_nil))))))
theorem sc__law_files : FnScope _law_files_N ["solid", "loose"] (defScope s__law_files) := ⟨rfl, rfl, rfl, by decide +kernel, rfl, by decide +kernel, by decide +kernel⟩
theorem ok__law_files {f : Addr} {fd : FuncData} (Fu : Fun K "_law_files" "_law_files" s__law_files f fd) (T : Txt K mg C_Disk)  :
    FnOk P w K mg base CX0 1 f fd ["solid", "loose"] (spP K (_law_files_f C_Disk)) := by
  have S := sc__law_files
  exact fn_pure (N := _law_files_N) (ps := ["solid", "loose"]) (k := 0) (md := [.ro, .ro, .loc, .any, .any]) (fb := _law_files_b C_Disk) Fu S rfl (by decide) (by decide) fun cdv A outer s H E hr =>
    ((pssd_cons (psd_set S.nd rfl (Or.inl rfl) (.inl rfl) (pd_callTy (c_dict rfl) rfl T.b_dict bb_dict (pda_cons (pd_listItems rfl (pd_var 0) rfl T.b_list bb_list) pda_nil)))
      (pssd_cons (psd_for [.ro, .ro, .loc, .any, .any] [3, 4] PassesOwn.never rfl (cmp_by (by decide)) (by decide) (any_by (by decide)) (wip_by (by decide)) (pix_pure (pid_seq (pd_var 1))) (pgd_tup rfl (pgsd_cons (pgd_any S.nd rfl (Or.inl rfl) rfl) (pgsd_cons (pgd_any S.nd rfl (Or.inl rfl) rfl) pgsd_nil)))
      (pssd_one (psd_if (ptd_cmpn (o_eqn hr.units) (pd_var 4) pd_str)
      (pssd_one (psxd_drop (pxd_popD (.inl rfl) (pp_var (i := 2)) (pd_var 3) pd_non ⟨rfl, rfl, rfl, rfl⟩)))
      (pssd_one (psd_setItD (hu_of hr) (.inl rfl) (pp_var (i := 2)) (pd_var 3) (pd_op o_add (pd_get2 (hu_of hr) (pd_var 2) (pd_var 3) pd_str ⟨rfl, rfl, rfl, rfl⟩) (pd_var 4)))))))
      (pssd_one (psd_ret (by decide) (pd_var 2))))))
theorem sc_Disk_drop : FnScope Disk_drop_N ["self", "name"] (defScope s_Disk_drop) := ⟨rfl, rfl, rfl, by decide +kernel, rfl, by decide +kernel, by decide +kernel⟩
theorem ok_Disk_drop {f : Addr} {fd : FuncData} (Fu : Fun K "drop" "Disk.drop" s_Disk_drop f fd) (T : Txt K mg C_Disk)  :
    FnOk P w K mg base CX0 1 f fd ["self", "name"] (spX K (Disk_drop_f C_Disk)) := by
  have S := sc_Disk_drop
  exact fn_io (N := Disk_drop_N) (ps := ["self", "name"]) (k := 0) (md := [.io, .ro]) (fb := Disk_drop_b C_Disk) Fu S rfl (by decide) rfl (par_by (by decide)) fun cdv A outer s H E hr =>
    ((pssd_one (psxd_drop (pxd_append (.inr rfl) (pp_fld (pp_var (i := 0)) T.cl_Disk T.n_Disk_its_since) (pdo_cons (pd_tup (pdo_cons (pd_im (pd_var 1)) (pdo_cons pd_non pdo_nil))) pdo_nil)))))
theorem sc_Disk_add : FnScope Disk_add_N ["self", "name", "text"] (defScope s_Disk_add) := ⟨rfl, rfl, rfl, by decide +kernel, rfl, by decide +kernel, by decide +kernel⟩
theorem ok_Disk_add {f : Addr} {fd : FuncData} (Fu : Fun K "add" "Disk.add" s_Disk_add f fd) (T : Txt K mg C_Disk)  :
    FnOk P w K mg base CX0 1 f fd ["self", "name", "text"] (spX K (Disk_add_f C_Disk)) := by
  have S := sc_Disk_add
  exact fn_io (N := Disk_add_N) (ps := ["self", "name", "text"]) (k := 0) (md := [.io, .ro, .ro]) (fb := Disk_add_b C_Disk) Fu S rfl (by decide) rfl (par_by (by decide)) fun cdv A outer s H E hr =>
    ((pssd_one (psd_if (ptd_cmpn (o_nen hr.units) (pd_var 2) pd_str)
      (pssd_one (psxd_drop (pxd_append (.inr rfl) (pp_fld (pp_var (i := 0)) T.cl_Disk T.n_Disk_its_since) (pdo_cons (pd_tup (pdo_cons (pd_im (pd_var 1)) (pdo_cons (pd_im (pd_var 2)) pdo_nil))) pdo_nil))))
      pssd_nil)))
theorem sc_Disk_names : FnScope Disk_names_N ["self"] (defScope s_Disk_names) := ⟨rfl, rfl, rfl, by decide +kernel, rfl, by decide +kernel, by decide +kernel⟩
theorem ok_Disk_names {f : Addr} {fd : FuncData} (Fu : Fun K "names" "Disk.names" s_Disk_names f fd) (T : Txt K mg C_Disk) (h_Disk_files : GmP P w K mg base C_Disk 2 "files" (Disk_files_f C_Disk)) :
    FnOk P w K mg base CX0 3 f fd ["self"] (spP K (Disk_names_f C_Disk)) := by
  have S := sc_Disk_names
  exact fn_pure (N := Disk_names_N) (ps := ["self"]) (k := 2) (md := [.ro]) (fb := Disk_names_b C_Disk) Fu S rfl (by decide) (by decide) fun cdv A outer s H E hr =>
    ((pssd_one (psd_ret (by decide) (pd_callTy c_tuple rfl T.b_tuple bb_tuple (pda_cons (pd_callB (c_sorted rfl) rfl T.b_sorted bb_sorted (pda_cons (pd_mt0 h_Disk_files T.cl_Disk (hr.mono (by decide)) (pd_var 0)) pda_nil)) pda_nil)))))
theorem sc__law_alike : FnScope _law_alike_N ["found", "due"] (defScope s__law_alike) := ⟨rfl, rfl, rfl, by decide +kernel, rfl, by decide +kernel, by decide +kernel⟩
theorem ok__law_alike {f : Addr} {fd : FuncData} (Fu : Fun K "_law_alike" "_law_alike" s__law_alike f fd) (T : Txt K mg C_Disk)  :
    FnG P w K mg base CX0 1 f fd ["found", "due"] (spP K (_law_alike_f C_Disk)) := by
  have S := sc__law_alike
  exact fn_pureG (N := _law_alike_N) (ps := ["found", "due"]) (k := 0) (md := [.ro, .ro]) (fb := _law_alike_b C_Disk) Fu S rfl (by decide) (by decide) fun cdv A outer s H E hgd hr =>
    ((pssd_one (psd_ret (by decide) (pd_and (pd_cmpn (o_eqn hr.units) (pd_callB (c_repr hgd hr.units) rfl T.b_repr bb_repr (pda_cons (pd_var 0) pda_nil)) (pd_callB (c_repr hgd hr.units) rfl T.b_repr bb_repr (pda_cons (pd_var 1) pda_nil))) (pd_one (pd_cmpn (o_eqn hr.units) (pd_var 0) (pd_var 1)))))))
theorem sc_Disk_text : FnScope Disk_text_N ["self", "name"] (defScope s_Disk_text) := ⟨rfl, rfl, rfl, by decide +kernel, rfl, by decide +kernel, by decide +kernel⟩
theorem ok_Disk_text {f : Addr} {fd : FuncData} (Fu : Fun K "text" "Disk.text" s_Disk_text f fd) (T : Txt K mg C_Disk) (h_Disk_files : GmP P w K mg base C_Disk 2 "files" (Disk_files_f C_Disk)) :
    FnOk P w K mg base CX0 3 f fd ["self", "name"] (spP K (Disk_text_f C_Disk)) := by
  have S := sc_Disk_text
  exact fn_pure (N := Disk_text_N) (ps := ["self", "name"]) (k := 2) (md := [.ro, .ro]) (fb := Disk_text_b C_Disk) Fu S rfl (by decide) (by decide) fun cdv A outer s H E hr =>
    ((pssd_one (psd_ret (by decide) (pd_get2 (hu_of hr) (pd_mt0 h_Disk_files T.cl_Disk (hr.mono (by decide)) (pd_var 0)) (pd_var 1) pd_str ⟨rfl, rfl, rfl, rfl⟩))))
theorem sc_Disk_crashed : FnScope Disk_crashed_N ["self", "many"] (defScope s_Disk_crashed) := ⟨rfl, rfl, rfl, by decide +kernel, rfl, by decide +kernel, by decide +kernel⟩
theorem ok_Disk_crashed {f : Addr} {fd : FuncData} (Fu : Fun K "crashed" "Disk.crashed" s_Disk_crashed f fd) (T : Txt K mg C_Disk) (h_Disk : GcX P w K mg base C_Disk 1 "Disk" (Disk___init___f C_Disk)) (h_Disk_done : GmP P w K mg base C_Disk 1 "done" (Disk_done_f C_Disk)) :
    FnOk P w K mg base CX0 3 f fd ["self", "many"] (spP K (Disk_crashed_f C_Disk)) := by
  have S := sc_Disk_crashed
  exact fn_pure (N := Disk_crashed_N) (ps := ["self", "many"]) (k := 2) (md := [.ro, .ro, .loc]) (fb := Disk_crashed_b C_Disk) Fu S rfl (by decide) (by decide) fun cdv A outer s H E hr =>
    ((pssd_cons (psd_set S.nd rfl (Or.inl rfl) (.inl rfl) (pd_new0 h_Disk (hr.mono (by decide)) rfl))
      (pssd_cons (psd_fld (.inl rfl) (pp_var (i := 2)) T.cl_Disk T.n_Disk_its_sure (pd_mt h_Disk_done T.cl_Disk (hr.mono (by decide)) (pd_var 0) (pda_cons (pd_var 1) pda_nil)))
      (pssd_one (psd_ret (by decide) (pd_var 2))))))
theorem sc_Disk___eq__ : FnScope Disk___eq___N ["self", "other"] (defScope s_Disk___eq__) := ⟨rfl, rfl, rfl, by decide +kernel, rfl, by decide +kernel, by decide +kernel⟩
theorem ok_Disk___eq__ {f : Addr} {fd : FuncData} (Fu : Fun K "__eq__" "Disk.__eq__" s_Disk___eq__ f fd) (T : Txt K mg C_Disk) (h_Disk_files : GmP P w K mg base C_Disk 2 "files" (Disk_files_f C_Disk)) :
    FnOk P w K mg base CX0 3 f fd ["self", "other"] (spP K (Disk___eq___f C_Disk)) := by
  have S := sc_Disk___eq__
  exact fn_pure (N := Disk___eq___N) (ps := ["self", "other"]) (k := 2) (md := [.ro, .ro]) (fb := Disk___eq___b C_Disk) Fu S rfl (by decide) (by decide) fun cdv A outer s H E hr =>
    ((pssd_one (psd_ret (by decide) (pd_and (pd_isi T.i_Disk rfl T.b_isinstance bb_isinstance (pd_var 1) (pc_cls rfl T.g_Disk)) (pd_one (pd_cmpn (o_eqn hr.units) (pd_mt0 h_Disk_files T.cl_Disk (hr.mono (by decide)) (pd_var 0)) (pd_mt0 h_Disk_files T.cl_Disk (hr.mono (by decide)) (pd_var 1))))))))
theorem sc__law_framed : FnScope _law_framed_N ["text"] (defScope s__law_framed) := ⟨rfl, rfl, rfl, by decide +kernel, rfl, by decide +kernel, by decide +kernel⟩
theorem ok__law_framed {f : Addr} {fd : FuncData} (Fu : Fun K "_law_framed" "_law_framed" s__law_framed f fd) (T : Txt K mg C_Disk)  :
    FnOk P w K mg base CX0 1 f fd ["text"] (spP K (_law_framed_f C_Disk)) := by
  have S := sc__law_framed
  exact fn_pure (N := _law_framed_N) (ps := ["text"]) (k := 0) (md := [.ro, .loc, .any, .any]) (fb := _law_framed_b C_Disk) Fu S rfl (by decide) (by decide) fun cdv A outer s H E hr =>
    ((pssd_cons (psd_set S.nd rfl (Or.inl rfl) (.inl rfl) (pd_callB (c_sum rfl) rfl T.b_sum bb_sum (pda_cons (pd_lc (own := [("at", 2), ("sign", 3)]) rfl S.nd (blkOk_by (own := [("at", 2), ("sign", 3)]) (N := _law_framed_N) (sc := defScope s__law_framed) (by decide +kernel)) (pid_enum1 rfl T.b_enumerate (pd_var 0)) (fun _ _ _ _ _ => (pgs_tup rfl (pgss_cons (pgs_s S.nd rfl (Or.inl rfl) (by decide)) (pgss_cons (pgs_s S.nd rfl (Or.inl rfl) (by decide)) pgss_nil)))) (fun _ _ _ _ _ => ptsd_nil) (fun _ _ _ _ _ => (pd_op o_mulI (pd_op o_add (pd_var 2) pd_int) (pd_callB c_ord rfl T.b_ord bb_ord (pda_cons (pd_var 3) pda_nil))))) pda_nil)))
      (pssd_one (psd_ret (by decide) (pd_op o_add (pd_op o_add (pd_op o_add (pd_op o_add (pd_op o_add (pd_callTy c_str rfl T.b_str bb_str (pda_cons (pd_callB c_len rfl T.b_len bb_len (pda_cons (pd_var 0) pda_nil)) pda_nil)) pd_str) (pd_callTy c_str rfl T.b_str bb_str (pda_cons (pd_op o_mod (pd_callTy c_int rfl T.b_int bb_int (pda_cons (pd_var 1) pda_nil)) pd_int) pda_nil))) pd_str) (pd_var 0)) pd_str)))))
theorem sc_check_of : FnScope check_of_N ["text"] (defScope s_check_of) := ⟨rfl, rfl, rfl, by decide +kernel, rfl, by decide +kernel, by decide +kernel⟩
theorem ok_check_of {f : Addr} {fd : FuncData} (Fu : Fun K "check_of" "check_of" s_check_of f fd) (T : Txt K mg C_Disk)  :
    FnOk P w K mg base CX0 1 f fd ["text"] (spP K (check_of_f C_Disk)) := by
  have S := sc_check_of
  exact fn_pure (N := check_of_N) (ps := ["text"]) (k := 0) (md := [.ro, .any, .any]) (fb := check_of_b C_Disk) Fu S rfl (by decide) (by decide) fun cdv A outer s H E hr =>
    ((pssd_one (psd_ret (by decide) (pd_op o_mod (pd_callB (c_sum rfl) rfl T.b_sum bb_sum (pda_cons (pd_lc (own := [("place", 1), ("sign", 2)]) rfl S.nd (blkOk_by (own := [("place", 1), ("sign", 2)]) (N := check_of_N) (sc := defScope s_check_of) (by decide +kernel)) (pid_enum2 rfl T.b_enumerate (pd_var 0) pd_int) (fun _ _ _ _ _ => (pgs_tup rfl (pgss_cons (pgs_s S.nd rfl (Or.inl rfl) (by decide)) (pgss_cons (pgs_s S.nd rfl (Or.inl rfl) (by decide)) pgss_nil)))) (fun _ _ _ _ _ => ptsd_nil) (fun _ _ _ _ _ => (pd_op o_mulI (pd_var 1) (pd_callB c_ord rfl T.b_ord bb_ord (pda_cons (pd_var 2) pda_nil))))) pda_nil)) (pd_gI T.c_CHECK rfl)))))
theorem sc_framed : FnScope framed_N ["text"] (defScope s_framed) := ⟨rfl, rfl, rfl, by decide +kernel, rfl, by decide +kernel, by decide +kernel⟩
theorem ok_framed {f : Addr} {fd : FuncData} (Fu : Fun K "framed" "framed" s_framed f fd) (T : Txt K mg C_Disk) (h_check_of : GfP P w K mg base 1 "check_of" (check_of_f C_Disk)) :
    FnOk P w K mg base CX0 2 f fd ["text"] (spP K (framed_f C_Disk)) := by
  have S := sc_framed
  exact fn_pure (N := framed_N) (ps := ["text"]) (k := 1) (md := [.ro]) (fb := framed_b C_Disk) Fu S rfl (by decide) (by decide) fun cdv A outer s H E hr =>
    ((pssd_one (psd_ret (by decide) (pd_joined (PJD.cons (pd_fmt (pd_callB c_len rfl T.b_len bb_len (pda_cons (pd_var 0) pda_nil))) (PJD.cons pd_str (PJD.cons (pd_fmt (pd_fn h_check_of (hr.mono (by decide)) rfl (pda_cons (pd_var 0) pda_nil))) (PJD.cons pd_str (PJD.cons (pd_fmt (pd_var 0)) (PJD.cons pd_str PJD.nil))))))))))
theorem sc_number_at : FnScope number_at_N ["text", "begin"] (defScope s_number_at) := ⟨rfl, rfl, rfl, by decide +kernel, rfl, by decide +kernel, by decide +kernel⟩
theorem ok_number_at {f : Addr} {fd : FuncData} (Fu : Fun K "number_at" "number_at" s_number_at f fd) (T : Txt K mg C_Disk)  :
    FnOk P w K mg base CX0 1 f fd ["text", "begin"] (spP K (number_at_f C_Disk)) := by
  have S := sc_number_at
  exact fn_pure (N := number_at_N) (ps := ["text", "begin"]) (k := 0) (md := [.ro, .ro, .loc, .loc, .any]) (fb := number_at_b C_Disk) Fu S rfl (by decide) (by decide) fun cdv A outer s H E hr =>
    ((pssd_cons (psd_set S.nd rfl (Or.inl rfl) (.inl rfl) (pd_sm F.slot_str_find F.type_str_find t_find findM_t (pd_var 0) (pda_cons pd_str (pda_cons (pd_var 1) (pda_cons (pd_op o_add (pd_var 1) pd_int) pda_nil)))))
      (pssd_cons (psd_set S.nd rfl (Or.inl rfl) (.inl rfl) (pd_if (ptd_cmp o_gt (pd_var 2) (pd_var 1)) (pd_cut (pd_var 0) (pod_some (pd_var 1)) (pod_some (pd_var 2))) pd_str))
      (pssd_cons (psd_if (ptd_w (pwd_or (ptd_cmpn (o_eqn hr.units) (pd_var 3) pd_str) (pwd_or1 (ptd_not (ptd_val (pd_callB (c_all rfl) rfl T.b_all bb_all (pda_cons (pd_lc (own := [("sign", 4)]) rfl S.nd (blkOk_by (own := [("sign", 4)]) (N := number_at_N) (sc := defScope s_number_at) (by decide +kernel)) (pid_seq (pd_var 3)) (fun _ _ _ _ _ => (pgs_s S.nd rfl (Or.inl rfl) (by decide))) (fun _ _ _ _ _ => ptsd_nil) (fun _ _ _ _ _ => (pd_chain o_le o_le pd_str (pd_var 4) pd_str))) pda_nil)))))))
      (pssd_one (psd_ret (by decide) pd_non))
      pssd_nil)
      (pssd_one (psd_ret (by decide) (pd_tup (pdo_cons (pd_callTy c_int rfl T.b_int bb_int (pda_cons (pd_var 3) pda_nil)) (pdo_cons (pd_op o_add (pd_var 2) pd_int) pdo_nil)))))))))
theorem sc_frame_at : FnScope frame_at_N ["text", "begin"] (defScope s_frame_at) := ⟨rfl, rfl, rfl, by decide +kernel, rfl, by decide +kernel, by decide +kernel⟩
theorem ok_frame_at {f : Addr} {fd : FuncData} (Fu : Fun K "frame_at" "frame_at" s_frame_at f fd) (T : Txt K mg C_Disk) (h_number_at : GfP P w K mg base 1 "number_at" (number_at_f C_Disk)) (h_framed : GfP P w K mg base 2 "framed" (framed_f C_Disk)) :
    FnOk P w K mg base CX0 3 f fd ["text", "begin"] (spP K (frame_at_f C_Disk)) := by
  have S := sc_frame_at
  exact fn_pure (N := frame_at_N) (ps := ["text", "begin"]) (k := 2) (md := [.ro, .ro, .loc, .loc, .loc, .loc, .loc]) (fb := frame_at_b C_Disk) Fu S rfl (by decide) (by decide) fun cdv A outer s H E hr =>
    ((pssd_cons (psd_set S.nd rfl (Or.inl rfl) (.inl rfl) (pd_fn h_number_at (hr.mono (by decide)) rfl (pda_cons (pd_var 0) (pda_cons (pd_var 1) pda_nil))))
      (pssd_cons (psd_set S.nd rfl (Or.inl rfl) (.inl rfl) (pd_if (ptd_cmp o_isN (pd_var 2) pd_non) pd_non (pd_fn h_number_at (hr.mono (by decide)) rfl (pda_cons (pd_var 0) (pda_cons (pd_ixm (pd_var 2) pd_int) pda_nil)))))
      (pssd_cons (psd_if (ptd_cmp o_isN (pd_var 3) pd_non)
      (pssd_one (psd_ret (by decide) pd_non))
      pssd_nil)
      (pssd_cons (psd_set S.nd rfl (Or.inl rfl) (.inl rfl) (pd_cut (pd_var 0) (pod_some (pd_ixm (pd_var 3) pd_int)) (pod_some (pd_op o_add (pd_ixm (pd_var 3) pd_int) (pd_ixm (pd_var 2) pd_int)))))
      (pssd_cons (psd_set S.nd rfl (Or.inl rfl) (.inl rfl) (pd_op o_add (pd_op o_add (pd_ixm (pd_var 3) pd_int) (pd_ixm (pd_var 2) pd_int)) pd_int))
      (pssd_cons (psd_set S.nd rfl (Or.inl rfl) (.inl rfl) (pd_cmpn (o_eqn hr.units) (pd_cut (pd_var 0) (pod_some (pd_var 1)) (pod_some (pd_var 5))) (pd_fn h_framed (hr.mono (by decide)) rfl (pda_cons (pd_var 4) pda_nil))))
      (pssd_one (psd_ret (by decide) (pd_if (ptd_val (pd_var 6)) (pd_tup (pdo_cons (pd_im (pd_var 4)) (pdo_cons (pd_im (pd_var 5)) pdo_nil))) pd_non))))))))))
theorem sc_frames_in : FnScope frames_in_N ["text"] (defScope s_frames_in) := ⟨rfl, rfl, rfl, by decide +kernel, rfl, by decide +kernel, by decide +kernel⟩
theorem ok_frames_in {f : Addr} {fd : FuncData} (Fu : Fun K "frames_in" "frames_in" s_frames_in f fd) (T : Txt K mg C_Disk) (h_frame_at : GfP P w K mg base 3 "frame_at" (frame_at_f C_Disk)) :
    FnOk P w K mg base CX0 4 f fd ["text"] (spP K (frames_in_f C_Disk)) := by
  have S := sc_frames_in
  exact fn_pure (N := frames_in_N) (ps := ["text"]) (k := 3) (md := [.ro, .loc, .loc, .loc]) (fb := frames_in_b C_Disk) Fu S rfl (by decide) (by decide) fun cdv A outer s H E hr =>
    ((pssd_cons (psd_par3 rfl S.nd rfl rfl rfl (by decide) (by decide) (by decide) rfl rfl rfl (.inl rfl) (.inl rfl) (.inl rfl) (pdo_cons (pd_lst pdo_nil) (pdo_cons pd_int (pdo_cons (pd_fn h_frame_at (hr.mono (by decide)) rfl (pda_cons (pd_var 0) (pda_cons pd_int pda_nil))) pdo_nil))) rfl)
      (pssd_cons (psd_while 100000 PassesOwn.never (ptd_cmp o_notN (pd_var 3) pd_non)
      (pssd_cons (psxd_drop (pxd_append (.inl rfl) (pp_var (i := 1)) (pdo_cons (pd_im (pd_ixm (pd_var 3) pd_int)) pdo_nil)))
      (pssd_cons (psd_set S.nd rfl (Or.inl rfl) (.inl rfl) (pd_im (pd_ixm (pd_var 3) pd_int)))
      (pssd_one (psd_set S.nd rfl (Or.inl rfl) (.inl rfl) (pd_fn h_frame_at (hr.mono (by decide)) rfl (pda_cons (pd_var 0) (pda_cons (pd_var 2) pda_nil))))))))
      (pssd_one (psd_ret (by decide) (pd_tup (pdo_cons (pd_callTy c_tuple rfl T.b_tuple bb_tuple (pda_cons (pd_var 1) pda_nil)) (pdo_cons (pd_op o_sub (pd_callB c_len rfl T.b_len bb_len (pda_cons (pd_var 0) pda_nil)) (pd_var 2)) pdo_nil))))))))
theorem sc__law_first_frame : FnScope _law_first_frame_N ["text"] (defScope s__law_first_frame) := ⟨rfl, rfl, rfl, by decide +kernel, rfl, by decide +kernel, by decide +kernel⟩
theorem ok__law_first_frame {f : Addr} {fd : FuncData} (Fu : Fun K "_law_first_frame" "_law_first_frame" s__law_first_frame f fd) (T : Txt K mg C_Disk) (h__law_framed : GfP P w K mg base 1 "_law_framed" (_law_framed_f C_Disk)) :
    FnOk P w K mg base CX0 2 f fd ["text"] (spP K (_law_first_frame_f C_Disk)) := by
  have S := sc__law_first_frame
  exact fn_pure (N := _law_first_frame_N) (ps := ["text"]) (k := 1) (md := [.ro, .loc, .loc, .loc, .loc]) (fb := _law_first_frame_b C_Disk) Fu S rfl (by decide) (by decide) fun cdv A outer s H E hr =>
    ((pssd_cons (psd_set S.nd rfl (Or.inl rfl) (.inl rfl) (pd_sm F.slot_str_split F.type_str_split t_split splitM_t (pd_var 0) (pda_cons pd_str pda_nil)))
      (pssd_cons (psd_if (ptd_w (pwd_or (ptd_cmp o_lt (pd_callB c_len rfl T.b_len bb_len (pda_cons (pd_var 1) pda_nil)) pd_int) (pwd_or (ptd_not (ptd_val (pd_sm0 F.slot_str_isdigit F.type_str_isdigit t_isdigit s0M_t (pd_ixm (pd_var 1) pd_int)))) (pwd_or (ptd_cmp o_gt (pd_callB c_len rfl T.b_len bb_len (pda_cons (pd_ixm (pd_var 1) pd_int) pda_nil)) pd_int) (pwd_or1 (ptd_cmpn (o_nen hr.units) (pd_callTy c_str rfl T.b_str bb_str (pda_cons (pd_callTy c_int rfl T.b_int bb_int (pda_cons (pd_ixm (pd_var 1) pd_int) pda_nil)) pda_nil)) (pd_ixm (pd_var 1) pd_int)))))))
      (pssd_one (psd_ret (by decide) pd_non))
      pssd_nil)
      (pssd_cons (psd_set S.nd rfl (Or.inl rfl) (.inl rfl) (pd_op o_add (pd_op o_add (pd_callB c_len rfl T.b_len bb_len (pda_cons (pd_ixm (pd_var 1) pd_int) pda_nil)) (pd_callB c_len rfl T.b_len bb_len (pda_cons (pd_ixm (pd_var 1) pd_int) pda_nil))) pd_int))
      (pssd_cons (psd_set S.nd rfl (Or.inl rfl) (.inl rfl) (pd_cut (pd_var 0) (pod_some (pd_var 2)) (pod_some (pd_op o_add (pd_var 2) (pd_callTy c_int rfl T.b_int bb_int (pda_cons (pd_ixm (pd_var 1) pd_int) pda_nil))))))
      (pssd_cons (psd_set S.nd rfl (Or.inl rfl) (.inl rfl) (pd_fn h__law_framed (hr.mono (by decide)) rfl (pda_cons (pd_var 3) pda_nil)))
      (pssd_one (psd_ret (by decide) (pd_if (ptd_w (pwd_and (ptd_cmpn (o_eqn hr.units) (pd_cut (pd_var 0) pod_none (pod_some (pd_callB c_len rfl T.b_len bb_len (pda_cons (pd_var 4) pda_nil)))) (pd_var 4)) (pwd_and1 (ptd_cmpn (o_eqn hr.units) (pd_callB c_len rfl T.b_len bb_len (pda_cons (pd_var 3) pda_nil)) (pd_callTy c_int rfl T.b_int bb_int (pda_cons (pd_ixm (pd_var 1) pd_int) pda_nil)))))) (pd_tup (pdo_cons (pd_im (pd_var 3)) (pdo_cons (pd_cut (pd_var 0) (pod_some (pd_callB c_len rfl T.b_len bb_len (pda_cons (pd_var 4) pda_nil))) pod_none) pdo_nil))) pd_non)))))))))
theorem sc__law_frames : FnScope _law_frames_N ["text"] (defScope s__law_frames) := ⟨rfl, rfl, rfl, by decide +kernel, rfl, by decide +kernel, by decide +kernel⟩
theorem ok__law_frames {f : Addr} {fd : FuncData} (Fu : Fun K "_law_frames" "_law_frames" s__law_frames f fd) (T : Txt K mg C_Disk) (h__law_first_frame : GfP P w K mg base 2 "_law_first_frame" (_law_first_frame_f C_Disk)) :
    FnOk P w K mg base CX0 3 f fd ["text"] (spP K (_law_frames_f C_Disk)) := by
  have S := sc__law_frames
  exact fn_pure (N := _law_frames_N) (ps := ["text"]) (k := 2) (md := [.ro, .any, .loc, .loc, .loc]) (fb := _law_frames_b C_Disk) Fu S rfl (by decide) (by decide) fun cdv A outer s H E hr =>
    ((pssd_cons (psd_par2 rfl S.nd rfl rfl (by decide) rfl rfl (.inl rfl) (.inl rfl) (pdo_cons (pd_lst pdo_nil) (pdo_cons (pd_im (pd_var 0)) pdo_nil)) rfl)
      (pssd_cons (psd_for [.ro, .any, .loc, .loc, .loc] [1] PassesOwn.never rfl (cmp_by (by decide)) (by decide) (any_by (by decide)) (wip_by (by decide)) (pix_pure (pid_range1 rfl T.b_range (pda_cons (pd_op o_add (pd_callB c_len rfl T.b_len bb_len (pda_cons (pd_var 0) pda_nil)) pd_int) pda_nil))) (pgd_any S.nd rfl (Or.inl rfl) rfl)
      (pssd_cons (psd_set S.nd rfl (Or.inl rfl) (.inl rfl) (pd_fn h__law_first_frame (hr.mono (by decide)) rfl (pda_cons (pd_var 3) pda_nil)))
      (pssd_cons (psd_if (ptd_cmp o_isN (pd_var 4) pd_non)
      (pssd_one (psd_ret (by decide) (pd_tup (pdo_cons (pd_callTy c_tuple rfl T.b_tuple bb_tuple (pda_cons (pd_var 2) pda_nil)) (pdo_cons (pd_callB c_len rfl T.b_len bb_len (pda_cons (pd_var 3) pda_nil)) pdo_nil)))))
      pssd_nil)
      (pssd_cons (psxd_drop (pxd_append (.inl rfl) (pp_var (i := 2)) (pdo_cons (pd_im (pd_ixm (pd_var 4) pd_int)) pdo_nil)))
      (pssd_one (psd_set S.nd rfl (Or.inl rfl) (.inl rfl) (pd_im (pd_ixm (pd_var 4) pd_int))))))))
      (pssd_one (psd_ret (by decide) (pd_tup (pdo_cons (pd_callTy c_tuple rfl T.b_tuple bb_tuple (pda_cons (pd_var 2) pda_nil)) (pdo_cons (pd_callB c_len rfl T.b_len bb_len (pda_cons (pd_var 3) pda_nil)) pdo_nil))))))))
theorem sc_law : FnScope law_N ["script"] (defScope s_law) := ⟨rfl, rfl, rfl, by decide +kernel, rfl, by decide +kernel, by decide +kernel⟩
theorem ok_law {f : Addr} {fd : FuncData} (Fu : Fun K "law" "law" s_law f fd) (T : Txt K mg C_Disk) (h__law_bag : GfP P w K mg base 1 "_law_bag" (_law_bag_f C_Disk)) (h_Disk : GcX P w K mg base C_Disk 1 "Disk" (Disk___init___f C_Disk)) (h__law_some : GfX P w K mg base 2 "_law_some" (_law_some_f C_Disk)) (h__law_take : GfX P w K mg base 1 "_law_take" (_law_take_f C_Disk)) (h_Disk_sync : GmX P w K mg base C_Disk 3 "sync" (Disk_sync_f C_Disk)) (h__law_files : GfP P w K mg base 1 "_law_files" (_law_files_f C_Disk)) (h_Disk_drop : GmX P w K mg base C_Disk 1 "drop" (Disk_drop_f C_Disk)) (h_Disk_add : GmX P w K mg base C_Disk 1 "add" (Disk_add_f C_Disk)) (h_Disk_names : GmP P w K mg base C_Disk 3 "names" (Disk_names_f C_Disk)) (h_Disk_loose : GmP P w K mg base C_Disk 1 "loose" (Disk_loose_f C_Disk)) (h__law_alike : GfG P w K mg base 1 "_law_alike" (_law_alike_f C_Disk)) (h_Disk_text : GmP P w K mg base C_Disk 3 "text" (Disk_text_f C_Disk)) (h_Disk_crashed : GmP P w K mg base C_Disk 3 "crashed" (Disk_crashed_f C_Disk)) (h_Disk_eq : GeP P w K mg base C_Disk 3 (Disk___eq___f C_Disk)) (h__law_framed : GfP P w K mg base 1 "_law_framed" (_law_framed_f C_Disk)) (h_framed : GfP P w K mg base 2 "framed" (framed_f C_Disk)) (h_frames_in : GfP P w K mg base 4 "frames_in" (frames_in_f C_Disk)) (h__law_frames : GfP P w K mg base 3 "_law_frames" (_law_frames_f C_Disk)) :
    FnG P w K mg base CX0 5 f fd ["script"] (spP K (law_f C_Disk)) := by
  have S := sc_law
  exact fn_pureG (N := law_N) (ps := ["script"]) (k := 4) (md := [.ro, .loc, .any, .loc, .loc, .any, .loc, .loc, .loc, .loc, .loc, .loc, .loc, .loc, .loc, .loc, .loc, .loc, .any, .any]) (fb := law_b C_Disk) Fu S rfl (by decide) (by decide) fun cdv A outer s H E hgd hr =>
    ((pssd_cons (psd_set S.nd rfl (Or.inr rfl) (.inl rfl) (pd_fn h__law_bag (hr.mono (by decide)) rfl (pda_cons (pd_var 0) pda_nil)))
      (pssd_cons (psd_asg (pd_tup (pdo_cons (pd_new0 h_Disk (hr.mono (by decide)) rfl) (pdo_cons pd_dic0 (pdo_cons (pd_lst pdo_nil) pdo_nil)))) (pgd_tup rfl (pgsd_cons (pgd_own S.nd rfl (Or.inr rfl) (.inl rfl)) (pgsd_cons (pgd_own S.nd rfl (Or.inl rfl) (.inl rfl)) (pgsd_cons (pgd_own S.nd rfl (Or.inl rfl) (.inl rfl)) pgsd_nil)))))
      (pssd_cons (psd_for [.ro, .loc, .any, .loc, .loc, .ro, .loc, .loc, .loc, .loc, .loc, .loc, .loc, .loc, .loc, .loc, .loc, .loc, .ro, .ro] [2] PassesOwn.never rfl (cmp_by (by decide)) (by decide) (any_by (by decide)) (wip_by (by decide)) (pixd_range1 rfl T.b_range (pxa_cons (pxi_of (pxd_fn (.inl rfl) (by decide) h__law_some (hr.mono (by decide)) rfl (pp_var (i := 1)) (pda_cons (pd_lst (pdo_cons pd_int (pdo_cons pd_int pdo_nil))) pda_nil))) pxa_nil)) (pgd_any S.nd rfl (Or.inl rfl) rfl)
      (pssd_cons (psxd_asg (pxd_of (pxi_tup (pxa_cons (pxi_of (pxd_fn (.inl rfl) (by decide) h__law_some (hr.mono (by decide)) rfl (pp_var (i := 1)) (pda_cons (pd_lst (pdo_cons pd_str (pdo_cons pd_str (pdo_cons pd_str (pdo_cons pd_str pdo_nil))))) pda_nil))) (pxa_cons (pxi_of (pxd_fn (.inl rfl) (by decide) h__law_take (hr.mono (by decide)) rfl (pp_var (i := 1)) (pda_cons pd_int pda_nil))) pxa_nil)))) (pgd_tup rfl (pgsd_cons (pgd_own S.nd rfl (Or.inr rfl) (.inl rfl)) (pgsd_cons (pgd_own S.nd rfl (Or.inl rfl) (.inl rfl)) pgsd_nil))))
      (pssd_cons (psd_if (ptd_cmpn (o_eqn hr.units) (pd_var 14) pd_int)
      (pssd_cons (psxd_drop (pxd_mt0 (.inl rfl) h_Disk_sync T.cl_Disk (hr.mono (by decide)) (pp_var (i := 6))))
      (pssd_one (psd_par2 rfl S.nd rfl rfl (by decide) rfl rfl (.inl rfl) (.inl rfl) (pdo_cons (pd_fn h__law_files (hr.mono (by decide)) rfl (pda_cons (pd_var 7) (pda_cons (pd_var 8) pda_nil))) (pdo_cons (pd_lst pdo_nil) pdo_nil)) rfl)))
      (pssd_one (psd_if (ptd_cmpn (o_eqn hr.units) (pd_var 14) pd_int)
      (pssd_one (psd_if (ptd_pc (pcd_in (hu_of hr) (pd_var 13) (pd_fn h__law_files (hr.mono (by decide)) rfl (pda_cons (pd_var 7) (pda_cons (pd_var 8) pda_nil)))))
      (pssd_cons (psxd_drop (pxd_mt (.inl rfl) (by decide) h_Disk_drop T.cl_Disk (hr.mono (by decide)) (pp_var (i := 6)) (pda_cons (pd_var 13) pda_nil)))
      (pssd_one (psxd_drop (pxd_append (.inl rfl) (pp_var (i := 8)) (pdo_cons (pd_tup (pdo_cons (pd_im (pd_var 13)) (pdo_cons pd_str pdo_nil))) pdo_nil)))))
      pssd_nil))
      (pssd_cons (psxd_set S.nd rfl (Or.inl rfl) (.inl rfl) (pxd_fn (.inl rfl) (by decide) h__law_some (hr.mono (by decide)) rfl (pp_var (i := 1)) (pda_cons (pd_lst (pdo_cons pd_str (pdo_cons pd_str (pdo_cons pd_str (pdo_cons pd_str (pdo_cons pd_str pdo_nil)))))) pda_nil)))
      (pssd_cons (psxd_drop (pxd_mt (.inl rfl) (by decide) h_Disk_add T.cl_Disk (hr.mono (by decide)) (pp_var (i := 6)) (pda_cons (pd_var 13) (pda_cons (pd_var 17) pda_nil))))
      (pssd_one (psxd_drop (pxd_extend (.inl rfl) (pp_var (i := 8)) (pdo_cons (pd_lc (own := [("sign", 19)]) rfl S.nd (blkOk_by (own := [("sign", 19)]) (N := law_N) (sc := defScope s_law) (by decide +kernel)) (pid_seq (pd_var 17)) (fun _ _ _ _ _ => (pgs_s S.nd rfl (Or.inl rfl) (by decide))) (fun _ _ _ _ _ => ptsd_nil) (fun _ _ _ _ _ => (pd_tup (pdo_cons (pd_im (pd_var 13)) (pdo_cons (pd_im (pd_var 19)) pdo_nil))))) pdo_nil)))))))))
      (pssd_cons (psd_set S.nd rfl (Or.inr rfl) (.inl rfl) (pd_fn h__law_files (hr.mono (by decide)) rfl (pda_cons (pd_var 7) (pda_cons (pd_var 8) pda_nil))))
      (pssd_cons (psd_if (ptd_not (ptd_val (pd_fnG hgd h__law_alike (hr.mono (by decide)) rfl (pda_cons (pd_lst (pdo_cons (pd_mt0 h_Disk_names T.cl_Disk (hr.mono (by decide)) (pd_var 6)) (pdo_cons (pd_mt0 h_Disk_loose T.cl_Disk (hr.mono (by decide)) (pd_var 6)) pdo_nil))) (pda_cons (pd_lst (pdo_cons (pd_callTy c_tuple rfl T.b_tuple bb_tuple (pda_cons (pd_callB (c_sorted rfl) rfl T.b_sorted bb_sorted (pda_cons (pd_var 9) pda_nil)) pda_nil)) (pdo_cons (pd_callB c_len rfl T.b_len bb_len (pda_cons (pd_var 8) pda_nil)) pdo_nil))) pda_nil)))))
      (pssd_one (psd_ret (by decide) pd_bl))
      pssd_nil)
      (pssd_cons (psd_if (ptd_cmpn (o_nen hr.units) (pd_lc (own := [("one", 18)]) rfl S.nd (blkOk_by (own := [("one", 18)]) (N := law_N) (sc := defScope s_law) (by decide +kernel)) (pid_seq (pd_tup (pdo_cons pd_str (pdo_cons pd_str (pdo_cons pd_str (pdo_cons pd_str (pdo_cons pd_str pdo_nil))))))) (fun _ _ _ _ _ => (pgs_s S.nd rfl (Or.inl rfl) (by decide))) (fun _ _ _ _ _ => (ptsd_one (ptd_cmpn (o_nen hr.units) (pd_mt h_Disk_text T.cl_Disk (hr.mono (by decide)) (pd_var 6) (pda_cons (pd_var 18) pda_nil)) (pd_get2 (hu_of hr) (pd_var 9) (pd_var 18) pd_str ⟨rfl, rfl, rfl, rfl⟩)))) (fun _ _ _ _ _ => pd_int)) (pd_lst pdo_nil))
      (pssd_one (psd_ret (by decide) pd_bl))
      pssd_nil)
      (pssd_cons (psxd_set S.nd rfl (Or.inl rfl) (.inl rfl) (pxd_fn (.inl rfl) (by decide) h__law_take (hr.mono (by decide)) rfl (pp_var (i := 1)) (pda_cons (pd_op o_add (pd_callB c_len rfl T.b_len bb_len (pda_cons (pd_var 8) pda_nil)) pd_int) pda_nil)))
      (pssd_cons (psd_asg (pd_tup (pdo_cons (pd_mt h_Disk_crashed T.cl_Disk (hr.mono (by decide)) (pd_var 6) (pda_cons (pd_var 10) pda_nil)) (pdo_cons (pd_fn h__law_files (hr.mono (by decide)) rfl (pda_cons (pd_var 7) (pda_cons (pd_cut (pd_var 8) pod_none (pod_some (pd_var 10))) pda_nil))) pdo_nil))) (pgd_tup rfl (pgsd_cons (pgd_own S.nd rfl (Or.inr rfl) (.inl rfl)) (pgsd_cons (pgd_own S.nd rfl (Or.inr rfl) (.inl rfl)) pgsd_nil))))
      (pssd_cons (psd_if (ptd_w (pwd_or (ptd_cmpn (o_nen hr.units) (pd_mt0 h_Disk_names T.cl_Disk (hr.mono (by decide)) (pd_var 15)) (pd_callTy c_tuple rfl T.b_tuple bb_tuple (pda_cons (pd_callB (c_sorted rfl) rfl T.b_sorted bb_sorted (pda_cons (pd_var 16) pda_nil)) pda_nil))) (pwd_or1 (ptd_cmpn (o_nen hr.units) (pd_lcK (own := [("one", 18)]) rfl S.nd (blkOk_by (own := [("one", 18)]) (N := law_N) (sc := defScope s_law) (by decide +kernel)) (pid_keys (pp_var (i := 16))) (fun _ _ _ _ _ => (pgs_s S.nd rfl (Or.inl rfl) (by decide))) (fun _ _ _ _ _ => (ptsd_one (ptd_cmpn (o_nen hr.units) (pd_mt h_Disk_text T.cl_Disk (hr.mono (by decide)) (pd_var 15) (pda_cons (pd_var 18) pda_nil)) (pd_dget (hu_of hr) (pd_var 16) (pd_var 18))))) (fun _ _ _ _ _ => pd_int)) (pd_lst pdo_nil)))))
      (pssd_one (psd_ret (by decide) pd_bl))
      pssd_nil)
      (pssd_one (psd_if (ptd_w (pwd_or (ptd_cmpn (o_nen hr.units) (pd_cmpn (o_ownG h_Disk_eq (hr.mono (by decide))) (pd_var 15) (pd_var 6)) (pd_cmpn (o_eqn hr.units) (pd_var 16) (pd_var 9))) (pwd_or1 (ptd_cmpn (o_ownG h_Disk_eq (hr.mono (by decide))) (pd_var 6) pd_int))))
      (pssd_one (psd_ret (by decide) pd_bl))
      pssd_nil)))))))))))
      (pssd_cons (psxd_setLc [.ro, .io, .any, .ro, .ro, .ro, .ro, .ro, .ro, .ro, .ro, .ro, .ro, .ro, .ro, .ro, .ro, .ro, .ro, .ro] (own := [("again", 2)]) rfl S.nd rfl rfl (.inl rfl) (sw_true rfl rfl rfl (by decide +kernel)) (blkOk_by (own := [("again", 2)]) (N := law_N) (sc := defScope s_law) (by decide +kernel)) (cmp_by (by decide)) (by decide) (no_by (by decide)) (any_by (by decide)) (own_by (by decide)) (pixd_range1 rfl T.b_range (pxa_cons (pxi_op o_add (pxi_pure pd_int) (pxi_of (pxd_fn (.inl rfl) (by decide) h__law_take (hr.mono (by decide)) rfl (pp_var (i := 1)) (pda_cons pd_int pda_nil)))) pxa_nil)) (fun _ _ _ _ _ => (pgd_any S.nd rfl (Or.inl rfl) rfl)) (fun _ _ _ _ _ => ptsd_nil) (fun _ _ _ _ _ => (pxd_fn (.inr rfl) (by decide) h__law_some (hr.mono (by decide)) rfl (pp_var (i := 1)) (pda_cons (pd_lst (pdo_cons pd_str (pdo_cons pd_str (pdo_cons pd_str (pdo_cons pd_str (pdo_cons pd_str (pdo_cons pd_str pdo_nil))))))) pda_nil))))
      (pssd_cons (psd_set S.nd rfl (Or.inl rfl) (.inl rfl) (pd_sm F.slot_str_join F.type_str_join t_join joinM_t pd_str (pda_cons (pd_lc (own := [("text", 17)]) rfl S.nd (blkOk_by (own := [("text", 17)]) (N := law_N) (sc := defScope s_law) (by decide +kernel)) (pid_seq (pd_var 3)) (fun _ _ _ _ _ => (pgs_s S.nd rfl (Or.inl rfl) (by decide))) (fun _ _ _ _ _ => ptsd_nil) (fun _ _ _ _ _ => (pd_fn h__law_framed (hr.mono (by decide)) rfl (pda_cons (pd_var 17) pda_nil)))) pda_nil)))
      (pssd_cons (psd_if (ptd_cmpn (o_nen hr.units) (pd_lc (own := [("text", 17)]) rfl S.nd (blkOk_by (own := [("text", 17)]) (N := law_N) (sc := defScope s_law) (by decide +kernel)) (pid_seq (pd_var 3)) (fun _ _ _ _ _ => (pgs_s S.nd rfl (Or.inl rfl) (by decide))) (fun _ _ _ _ _ => ptsd_nil) (fun _ _ _ _ _ => (pd_fn h_framed (hr.mono (by decide)) rfl (pda_cons (pd_var 17) pda_nil)))) (pd_lc (own := [("text", 17)]) rfl S.nd (blkOk_by (own := [("text", 17)]) (N := law_N) (sc := defScope s_law) (by decide +kernel)) (pid_seq (pd_var 3)) (fun _ _ _ _ _ => (pgs_s S.nd rfl (Or.inl rfl) (by decide))) (fun _ _ _ _ _ => ptsd_nil) (fun _ _ _ _ _ => (pd_fn h__law_framed (hr.mono (by decide)) rfl (pda_cons (pd_var 17) pda_nil)))))
      (pssd_one (psd_ret (by decide) pd_bl))
      pssd_nil)
      (pssd_cons (psd_if (ptd_not (ptd_val (pd_fnG hgd h__law_alike (hr.mono (by decide)) rfl (pda_cons (pd_fn h_frames_in (hr.mono (by decide)) rfl (pda_cons (pd_var 4) pda_nil)) (pda_cons (pd_tup (pdo_cons (pd_callTy c_tuple rfl T.b_tuple bb_tuple (pda_cons (pd_var 3) pda_nil)) (pdo_cons pd_int pdo_nil))) pda_nil)))))
      (pssd_one (psd_ret (by decide) pd_bl))
      pssd_nil)
      (pssd_cons (psd_for [.ro, .loc, .ro, .loc, .loc, .any, .loc, .loc, .loc, .loc, .loc, .loc, .loc, .loc, .loc, .loc, .loc, .loc, .ro, .ro] [5] PassesOwn.never rfl (cmp_by (by decide)) (by decide) (any_by (by decide)) (wip_by (by decide)) (pix_pure (pid_range1 rfl T.b_range (pda_cons (pd_op o_add (pd_callB c_len rfl T.b_len bb_len (pda_cons (pd_var 4) pda_nil)) pd_int) pda_nil))) (pgd_any S.nd rfl (Or.inl rfl) rfl)
      (pssd_one (psd_if (ptd_not (ptd_val (pd_fnG hgd h__law_alike (hr.mono (by decide)) rfl (pda_cons (pd_fn h_frames_in (hr.mono (by decide)) rfl (pda_cons (pd_cut (pd_var 4) pod_none (pod_some (pd_var 5))) pda_nil)) (pda_cons (pd_fn h__law_frames (hr.mono (by decide)) rfl (pda_cons (pd_cut (pd_var 4) pod_none (pod_some (pd_var 5))) pda_nil)) pda_nil)))))
      (pssd_one (psd_ret (by decide) pd_bl))
      pssd_nil)))
      (pssd_cons (psd_for [.ro, .loc, .any, .loc, .loc, .ro, .loc, .loc, .loc, .loc, .loc, .loc, .loc, .loc, .loc, .loc, .loc, .loc, .ro, .ro] [2] PassesOwn.never rfl (cmp_by (by decide)) (by decide) (any_by (by decide)) (wip_by (by decide)) (pix_pure (pid_range1 rfl T.b_range (pda_cons pd_int pda_nil))) (pgd_any S.nd rfl (Or.inl rfl) rfl)
      (pssd_cons (psxd_set S.nd rfl (Or.inl rfl) (.inl rfl) (pxd_fn (.inl rfl) (by decide) h__law_take (hr.mono (by decide)) rfl (pp_var (i := 1)) (pda_cons (pd_callB c_len rfl T.b_len bb_len (pda_cons (pd_var 4) pda_nil)) pda_nil)))
      (pssd_cons (psxd_set S.nd rfl (Or.inl rfl) (.inl rfl) (pxd_of (pxi_op o_add (pxi_op o_add (pxi_pure (pd_cut (pd_var 4) pod_none (pod_some (pd_var 11)))) (pxi_of (pxd_fn (.inl rfl) (by decide) h__law_some (hr.mono (by decide)) rfl (pp_var (i := 1)) (pda_cons (pd_lst (pdo_cons pd_str (pdo_cons pd_str (pdo_cons pd_str (pdo_cons pd_str (pdo_cons pd_str pdo_nil)))))) pda_nil)))) (pxi_pure (pd_cut (pd_var 4) (pod_some (pd_op o_add (pd_var 11) pd_int)) pod_none)))))
      (pssd_one (psd_if (ptd_not (ptd_val (pd_fnG hgd h__law_alike (hr.mono (by decide)) rfl (pda_cons (pd_fn h_frames_in (hr.mono (by decide)) rfl (pda_cons (pd_var 12) pda_nil)) (pda_cons (pd_fn h__law_frames (hr.mono (by decide)) rfl (pda_cons (pd_var 12) pda_nil)) pda_nil)))))
      (pssd_one (psd_ret (by decide) pd_bl))
      pssd_nil)))))
      (pssd_one (psd_ret (by decide) pd_bl))))))))))))
end
end DL.K52
/-! LT0: how plain functions are run. -/
namespace DL
open PySem L2
theorem R.bind_congr {α β : Type} {x y : R α} (f : α → R β) (h : x = y) : (x >>= f) = (y >>= f) := h ▸ rfl
def seqK (g : Env → R Fl) : Fl → R Fl
  | .nx ρ => g ρ
  | o => .ok o
theorem seqS_eq (f g : Env → R Fl) (ρ : Env) : seqS f g ρ = (f ρ >>= seqK g) := by
  unfold seqS
  cases f ρ with
  | ok o => cases o <;> rfl
  | _ => rfl
theorem seqK_nx (g : Env → R Fl) (ρ : Env) : seqK g (.nx ρ) = g ρ := rfl
theorem seqK_rt (g : Env → R Fl) (m : M) (ρ : Env) : seqK g (.rt m ρ) = .ok (.rt m ρ) := rfl
theorem seqK_bk (g : Env → R Fl) (ρ : Env) : seqK g (.bk ρ) = .ok (.bk ρ) := rfl
def setK (i : Nat) (ρ : Env) (m : M) : R Fl := .ok (.nx (ρ.set i (some m)))
theorem setK_eq (i : Nat) (ρ : Env) (m : M) : setK i ρ m = .ok (.nx (ρ.set i (some m))) := rfl
theorem setS_eq (i : Nat) (f : Env → R M) (ρ : Env) : setS i f ρ = (f ρ >>= setK i ρ) := rfl
def ifK (f g : Env → R Fl) (ρ : Env) (b : Bool) : R Fl := if b then f ρ else g ρ
theorem ifK_t (f g : Env → R Fl) (ρ : Env) : ifK f g ρ true = f ρ := rfl
theorem ifK_f (f g : Env → R Fl) (ρ : Env) : ifK f g ρ false = g ρ := rfl
theorem ifS_eq (c : Env → R Bool) (f g : Env → R Fl) (ρ : Env) : ifS c f g ρ = (c ρ >>= ifK f g ρ) := rfl
def retK (ρ : Env) (m : M) : R Fl := .ok (.rt m ρ)
theorem retK_eq (ρ : Env) (m : M) : retK ρ m = .ok (.rt m ρ) := rfl
theorem retS_eq (f : Env → R M) (ρ : Env) : retS f ρ = (f ρ >>= retK ρ) := rfl
theorem dropX_eq (f : Env → R (M × Env)) (ρ : Env) : dropX f ρ = (f ρ >>= fun x => .ok (.nx x.2)) := rfl
theorem setX_eq (i : Nat) (f : Env → R (M × Env)) (ρ : Env) : setX i f ρ = (f ρ >>= fun x => .ok (.nx (x.2.set i (some x.1)))) := rfl
theorem retX_eq (f : Env → R (M × Env)) (ρ : Env) : retX f ρ = (f ρ >>= fun x => .ok (.rt x.1 x.2)) := rfl
theorem augS_eq (i : Nat) (g : M → M → R M) (f : Env → R M) (ρ : Env) : augS i g f ρ = (getV ρ i >>= fun x => f ρ >>= fun y => g x y >>= setK i ρ) := rfl
theorem parS_eq (js : List Nat) (f : Env → R (List M)) (ρ : Env) : parS js f ρ = (f ρ >>= fun ms => if ms.length = js.length then .ok (.nx ((js.zip ms).foldl (fun ρ q => ρ.set q.1 (some q.2)) ρ)) else .no) := rfl
theorem asgS_eq (g : M → Env → R Env) (f : Env → R M) (ρ : Env) : asgS g f ρ = (f ρ >>= fun m => g m ρ >>= fun ρ' => .ok (.nx ρ')) := rfl
def ofO {α : Type} : Option α → R α
  | some a => .ok a
  | none => .no
theorem ofO_some {α : Type} (a : α) : ofO (some a) = .ok a := rfl
theorem plS2_eq (i : Nat) (f g : Env → R M) (F : M → M → M → R M) (ρ : Env) : plS2 i [] f g F ρ = (f ρ >>= fun x => getV ρ i >>= fun m => g ρ >>= fun k => F m k x >>= setK i ρ) := by
  unfold plS2
  cases f ρ with
  | ok x =>
    cases getV ρ i with
    | ok m => rfl
    | _ => rfl
  | _ => rfl
theorem plX_eq (i : Nat) (F : M → R (M × M)) (ρ : Env) : plX i [] F ρ = (getV ρ i >>= fun m => F m >>= fun x => .ok (x.1, ρ.set i (some x.2))) := by
  unfold plX
  cases getV ρ i <;> rfl
def augK3 (i : Nat) (f : Env → R M) (F : M → M → R M) (ρ : Env) (l : List M) (k : Int) : Option M → R Fl
  | some (.im x) => f ρ >>= fun y => F (.im x) y >>= fun z => setItL (.lst l) (mI k) z >>= setK i ρ
  | _ => .no
def augK2 (i : Nat) (f : Env → R M) (F : M → M → R M) (ρ : Env) (l : List M) : M → R Fl
  | .im (.int k) => augK3 i f F ρ l k (atI l k)
  | _ => .no
def augK1 (i : Nat) (f g : Env → R M) (F : M → M → R M) (ρ : Env) : M → R Fl
  | .lst l => g ρ >>= augK2 i f F ρ l
  | _ => .no
theorem augK1_l (i : Nat) (f g : Env → R M) (F : M → M → R M) (ρ : Env) (l : List M) : augK1 i f g F ρ (.lst l) = (g ρ >>= augK2 i f F ρ l) := rfl
theorem augK2_i (i : Nat) (f : Env → R M) (F : M → M → R M) (ρ : Env) (l : List M) (k : Int) : augK2 i f F ρ l (mI k) = augK3 i f F ρ l k (atI l k) := rfl
theorem augK3_s (i : Nat) (f : Env → R M) (F : M → M → R M) (ρ : Env) (l : List M) (k : Int) (x : I) : augK3 i f F ρ l k (some (.im x)) = (f ρ >>= fun y => F (.im x) y >>= fun z => setItL (.lst l) (mI k) z >>= setK i ρ) := rfl
theorem augItL_eq (i : Nat) (f g : Env → R M) (F : M → M → R M) (ρ : Env) : augItL i [] f g F ρ = (getV ρ i >>= augK1 i f g F ρ) := by
  unfold augItL
  cases getV ρ i with
  | ok m =>
    cases m with
    | lst l =>
      show (g ρ >>= _) = (g ρ >>= augK2 i f F ρ l)
      cases g ρ with
      | ok k =>
        cases k with
        | im k =>
          cases k with
          | int k =>
            show _ = augK3 i f F ρ l k (atI l k)
            simp only [R.ok_bind]
            cases atI l k with
            | none => rfl
            | some x => cases x <;> rfl
          | _ => rfl
        | _ => rfl
      | _ => rfl
    | _ => rfl
  | _ => rfl
def rIfK (a b : Unit → R M) (x : Bool) : R M := if x then a () else b ()
theorem rIf_eq (c : R Bool) (a b : Unit → R M) : rIf c a b = (c >>= rIfK a b) := rfl
theorem rIfK_t (a b : Unit → R M) : rIfK a b true = a () := rfl
theorem rIfK_f (a b : Unit → R M) : rIfK a b false = b () := rfl
def rOrK (b : Unit → R Bool) (x : Bool) : R Bool := if x then .ok true else b ()
theorem rOr_eq (a : R Bool) (b : Unit → R Bool) : rOr a b = (a >>= rOrK b) := rfl
theorem rOrK_t (b : Unit → R Bool) : rOrK b true = .ok true := rfl
theorem rOrK_f (b : Unit → R Bool) : rOrK b false = b () := rfl
theorem vAnd_eq (a : R M) (b : Unit → R M) : vAnd a b = (a >>= fun m => asB m >>= rIfK b fun _ => .ok (mB false)) := rfl
theorem getV_0 (m : M) (ρ : Env) : getV (some m :: ρ) 0 = .ok m := rfl
theorem getV_s (x : Option M) (ρ : Env) (i : Nat) : getV (x :: ρ) (i + 1) = getV ρ i := rfl
theorem ixM_lst (l : List M) (i : Int) : ixM (.lst l) (mI i) = ofO (atI l i) := by
  show (match atI l i with | some m => R.ok m | none => R.no) = ofO (atI l i)
  cases atI l i <;> rfl
theorem ixN_nat {n j : Nat} (h : j < n) : ixN n (j : Int) = some j := by
  unfold ixN
  rw [if_pos (by omega), if_pos (by omega)]
  rfl
theorem atI_nat {α : Type} {l : List α} {j : Nat} (h : j < l.length) : atI l (j : Int) = l[j]? := by
  unfold atI
  rw [ixN_nat h]
  rfl
theorem atI_0 {α : Type} (a : α) (l : List α) : atI (a :: l) 0 = some a := atI_nat (j := 0) (by simp)
theorem atI_1 {α : Type} (a b : α) (l : List α) : atI (a :: b :: l) 1 = some b := atI_nat (j := 1) (by simp)
theorem atI_2 {α : Type} (a b c : α) (l : List α) : atI (a :: b :: c :: l) 2 = some c := atI_nat (j := 2) (by simp)
theorem atI_3 {α : Type} (a b c d : α) (l : List α) : atI (a :: b :: c :: d :: l) 3 = some d := atI_nat (j := 3) (by simp)
theorem setItL_nat {l : List M} {j : Nat} {x : M} (h : j < l.length) : setItL (.lst l) (mI (j : Int)) x = .ok (.lst (l.set j x)) := by
  unfold setItL
  simp only [ixN_nat h]
theorem setItL_0 (a x : M) (l : List M) : setItL (.lst (a :: l)) (mI 0) x = .ok (.lst (x :: l)) := setItL_nat (j := 0) (by simp)
theorem setItL_1 (a b x : M) (l : List M) : setItL (.lst (a :: b :: l)) (mI 1) x = .ok (.lst (a :: x :: l)) := setItL_nat (j := 1) (by simp)
theorem setItL_2 (a b c x : M) (l : List M) : setItL (.lst (a :: b :: c :: l)) (mI 2) x = .ok (.lst (a :: b :: x :: l)) := setItL_nat (j := 2) (by simp)
theorem setItL_3 (a b c d x : M) (l : List M) : setItL (.lst (a :: b :: c :: d :: l)) (mI 3) x = .ok (.lst (a :: b :: c :: x :: l)) := setItL_nat (j := 3) (by simp)
theorem subM_nil (m : M) : subM m [] = some m := by unfold subM; rfl
theorem updM_nil (m n : M) : updM m [] n = n := by unfold updM; rfl
theorem asB_ok (b : Bool) : asB (mB b) = .ok b := rfl
theorem intR_ok (i : Int) : intR (mI i) = .ok i := rfl
theorem asIm_ok (i : I) : asIm (.im i) = .ok (.im i) := rfl
theorem asI_ok (i : I) : asI (.im i) = .ok i := rfl
theorem intM_int (i : Int) : intM [mI i] = .ok (mI i) := rfl
theorem mLst_one (m : M) : mLst [m] = .ok (.lst [m]) := rfl
theorem oMul_ok {i j : Int} (h : (fitI i || fitI j) = true) : oMul (mI i) (mI j) = .ok (mI (i * j)) := by unfold oMul onI; exact if_pos h
theorem oMul_r {i j : Int} (h : fitI j = true) : oMul (mI i) (mI j) = .ok (mI (i * j)) := oMul_ok (by rw [h, Bool.or_true])
theorem oMul_l {i j : Int} (h : fitI i = true) : oMul (mI i) (mI j) = .ok (mI (i * j)) := oMul_ok (by rw [h, Bool.true_or])
theorem oMod_ok {i j : Int} (h : 0 < j) : oMod (mI i) (mI j) = .ok (mI (i % j)) := by unfold oMod onI; exact if_pos (decide_eq_true h)
theorem oDiv_ok {i j : Int} (h : 0 < j) (h2 : j < 1073741824) : oDiv (mI i) (mI j) = .ok (mI (i / j)) := by unfold oDiv onI; exact if_pos (by simp [h, h2])
theorem oAdd_ii (i j : Int) : oAdd (mI i) (mI j) = .ok (mI (i + j)) := rfl
theorem oAddI_ii (i j : Int) : oAddI (mI i) (mI j) = .ok (mI (i + j)) := rfl
theorem oSub_ii (i j : Int) : oSub (mI i) (mI j) = .ok (mI (i - j)) := rfl
theorem eqD_ii (i j : Int) : eqD (mI i) (mI j) = .ok (decide (i = j)) := by
  unfold eqD
  simp only [dM, dI, PyData.depth, PyData.eqv]
  rfl
theorem oEq_ii (i j : Int) : oEq (mI i) (mI j) = .ok (mB (decide (i = j))) := by
  show (eqD (mI i) (mI j) >>= fun b => R.ok (mB b)) = _
  rw [eqD_ii]; rfl
theorem oNe_ii (i j : Int) : oNe (mI i) (mI j) = .ok (mB (!decide (i = j))) := by
  show (eqD (mI i) (mI j) >>= fun b => R.ok (mB (!b))) = _
  rw [eqD_ii]; rfl
theorem oGt_ii (i j : Int) : oGt (mI i) (mI j) = .ok (mB (decide (j < i))) := rfl
theorem oGe_ii (i j : Int) : oGe (mI i) (mI j) = .ok (mB (decide (j ≤ i))) := rfl
theorem oLt_ii (i j : Int) : oLt (mI i) (mI j) = .ok (mB (decide (i < j))) := rfl
theorem oLe_ii (i j : Int) : oLe (mI i) (mI j) = .ok (mB (decide (i ≤ j))) := rfl
theorem allIm_map' : ∀ l : List I, allIm (l.map M.im) = some l
  | [] => rfl
  | i :: l => by
    show (allIm (l.map M.im)).map (i :: ·) = _
    rw [allIm_map' l]; rfl
theorem allIm_ints (l : List Int) : allIm (l.map mI) = some (l.map I.int) := by
  rw [← allIm_map', List.map_map]; rfl
theorem allIm_strs (l : List Str) : allIm (l.map mS) = some (l.map I.str) := by
  rw [← allIm_map', List.map_map]; rfl
theorem cutM_ims (l : List I) (lo hi : Option Int) : cutM (.lst (l.map M.im)) lo hi = .ok (.lst ((cutA l lo hi).map M.im)) := by
  show (match allIm (l.map M.im) with | some k => R.ok (M.lst ((cutA k lo hi).map .im)) | none => .no) = _
  rw [allIm_map']
theorem cutM_ints (l : List Int) (lo hi : Option Int) : cutM (.lst (l.map mI)) lo hi = .ok (.lst ((cutA l lo hi).map mI)) := by
  have := cutM_ims (l.map I.int) lo hi
  rw [← cutA_map, List.map_map, List.map_map] at this
  exact this
theorem cutA_len {α : Type} (l : List α) (lo hi : Option Int) : (cutA l lo hi).length ≤ l.length := by
  unfold cutA
  simp only [List.length_take, List.length_drop]
  omega
theorem cutA_mem {α : Type} {l : List α} {lo hi : Option Int} {a : α} (h : a ∈ cutA l lo hi) : a ∈ l := List.mem_of_mem_drop (List.mem_of_mem_take h)
theorem oAdd_ims {k l : List I} (h : k.length + l.length ≤ sizeLine) : oAdd (.lst (k.map .im)) (.lst (l.map .im)) = .ok (.lst ((k ++ l).map .im)) := by
  show (match allIm (k.map .im), allIm (l.map .im) with
    | some a, some b => if a.length + b.length ≤ sizeLine then R.ok (M.lst ((a ++ b).map .im)) else .no
    | _, _ => .no) = _
  rw [allIm_map', allIm_map']
  exact if_pos h
theorem oAdd_ints {k l : List Int} (h : k.length + l.length ≤ sizeLine) : oAdd (.lst (k.map mI)) (.lst (l.map mI)) = .ok (.lst ((k ++ l).map mI)) := by
  have := oAdd_ims (k := k.map I.int) (l := l.map I.int) (by simpa using h)
  rw [← List.map_append, List.map_map, List.map_map, List.map_map] at this
  exact this
theorem lcR_map {α : Type} {g : M → Env → R Env} {ft : Env → R Bool} {fe : Env → R M} {ρ : Env} (e F : α → M) : ∀ {l : List α}, (∀ a ∈ l, ∃ ρ1, g (e a) ρ = .ok ρ1 ∧ ft ρ1 = .ok true ∧ fe ρ1 = .ok (F a)) → lcR g ft fe ρ (l.map e) = .ok (l.map F)
  | [], _ => rfl
  | a :: l, h => by
    obtain ⟨ρ1, h1, h2, h3⟩ := h a (List.mem_cons_self ..)
    show (g (e a) ρ >>= fun ρ1 => ft ρ1 >>= fun b => if b then fe ρ1 >>= fun v => lcR g ft fe ρ (l.map e) >>= fun vs => R.ok (v :: vs) else lcR g ft fe ρ (l.map e)) = _
    rw [lcR_map e F fun b hb => h b (List.mem_cons_of_mem _ hb)]
    simp only [h1, h2, h3, R.ok_bind, if_true, List.map_cons]
theorem lcM_map {α : Type} {vs : List Nat} {f : Env → R (List M)} {g : M → Env → R Env} {ft : Env → R Bool} {fe : Env → R M} {ρ : Env} (e F : α → M) {l : List α} (hf : f ρ = .ok (l.map e)) (hl : l.length ≤ sizeLine) (h : ∀ a ∈ l, ∃ ρ1, g (e a) (wipeE vs ρ) = .ok ρ1 ∧ ft ρ1 = .ok true ∧ fe ρ1 = .ok (F a)) : lcM vs f g ft fe ρ = .ok (.lst (l.map F)) := by
  unfold lcM
  simp only [hf, R.ok_bind, List.length_map, if_pos hl, lcR_map e F h]
def wipeR (W : List Nat) : Nat → Env → Env
  | _, [] => []
  | i, x :: r => cond (W.contains i) none x :: wipeR W (i + 1) r
theorem wipeR_nil (W : List Nat) (i : Nat) : wipeR W i [] = [] := rfl
theorem wipeR_cons (W : List Nat) (i : Nat) (x : Option M) (r : Env) : wipeR W i (x :: r) = cond (W.contains i) none x :: wipeR W (i + 1) r := rfl
theorem wipeR_len (W : List Nat) : ∀ (i : Nat) (ρ : Env), (wipeR W i ρ).length = ρ.length
  | _, [] => rfl
  | i, x :: r => congrArg (· + 1) (wipeR_len W (i + 1) r)
theorem wipeR_get (W : List Nat) : ∀ (i j : Nat) (ρ : Env), (wipeR W i ρ)[j]? = ρ[j]?.map fun x => cond (W.contains (i + j)) none x
  | _, _, [] => rfl
  | i, 0, x :: r => rfl
  | i, j + 1, x :: r => by
    show (wipeR W (i + 1) r)[j]? = r[j]?.map _
    rw [wipeR_get W (i + 1) j r, show i + 1 + j = i + (j + 1) by omega]
theorem wipeE_eq (W : List Nat) (ρ : Env) : wipeE W ρ = wipeR W 0 ρ := by
  apply List.ext_getElem?
  intro j
  rw [wipeR_get, Nat.zero_add]
  unfold wipeE
  rw [List.getElem?_map]
  by_cases h : j < ρ.length
  · rw [List.getElem?_range h, List.getElem?_eq_getElem h]
    show some (if W.contains j then none else (ρ[j]?).join) = some (cond (W.contains j) none ρ[j])
    rw [List.getElem?_eq_getElem h]
    cases W.contains j <;> rfl
  · rw [List.getElem?_eq_none (by simpa using h), List.getElem?_eq_none (by omega)]
    rfl
theorem mLst_ok {l : List M} (h : l.length ≤ sizeLine) : mLst l = .ok (.lst l) := if_pos h
end DL
/-! LT1: the bag. -/
namespace DL.K52
open PySem PySem.Spec PyProof.Rows L2 DL
structure BagOk (m : M) : Prop where
  is : ∃ (b0 b1 b2 : Int) (cs : List Int), m = .lst [mI b0, mI b1, mI b2, .lst (cs.map mI)] ∧ 0 ≤ b0 ∧ 0 ≤ b1 ∧ 0 ≤ b2 ∧ cs.length ≤ 63 ∧ ∀ c ∈ cs, 0 ≤ c
theorem take_true {b0 b1 b2 many : Int} {cs : List Int} (C : Addr) (h0 : 0 ≤ b0) (h1 : 0 ≤ b1) (h2 : 0 ≤ b2) (hc : ∀ c ∈ cs, 0 ≤ c) (hl : cs.length ≤ 63) (hm : 0 < many) (hM : many < 1073741824) :
    ∃ v m', _law_take_f C (.lst [mI b0, mI b1, mI b2, .lst (cs.map mI)]) [mI many] = .ok (mI v, m') ∧ 0 ≤ v ∧ v < many ∧ BagOk m' := by
  unfold _law_take_f defX _law_take_b
  by_cases hb : b0 = 0
  · subst hb
    have hadd : oAdd (.lst ((cutA cs (some b2) none).map mI)) (.lst [mI 0]) = .ok (.lst ((cutA cs (some b2) none ++ [0]).map mI)) := oAdd_ints (l := [0]) (by
      have := cutA_len cs (some b2) none
      show _ + 1 ≤ 2 ^ 24
      omega)
    obtain ⟨c, r, hcr⟩ : ∃ c r, cutA cs (some b2) none ++ [0] = c :: r := by
      cases cutA cs (some b2) none with
      | nil => exact ⟨0, [], rfl⟩
      | cons c r => exact ⟨c, r ++ [0], rfl⟩
    have hc0 : 0 ≤ c := by
      have : c ∈ cutA cs (some b2) none ++ [0] := by rw [hcr]; simp
      rcases List.mem_append.mp this with z | z
      · exact hc _ (cutA_mem z)
      · simp at z; omega
    rw [hcr] at hadd
    have hpow : oPow (mI 10) (mI 18) = .ok (mI 1000000000000000000) := by rfl
    have f1 : ∀ x, oMul (mI x) (mI 48271) = .ok (mI (x * 48271)) := fun x => oMul_r (by decide)
    have f2 : ∀ x, oMul (mI 7919) (mI x) = .ok (mI (7919 * x)) := fun x => oMul_l (by decide)
    have f3 : ∀ x, oMul (mI x) (mI 39373) = .ok (mI (x * 39373)) := fun x => oMul_r (by decide)
    have f4 : ∀ x, oMul (mI x) (mI 30011) = .ok (mI (x * 30011)) := fun x => oMul_r (by decide)
    have m1 : ∀ x, oMod (mI x) (mI 2147483647) = .ok (mI (x % 2147483647)) := fun x => oMod_ok (by decide)
    have m2 : ∀ x, oMod (mI x) (mI 1000000007) = .ok (mI (x % 1000000007)) := fun x => oMod_ok (by decide)
    have m3 : ∀ x, oMod (mI x) (mI 998244353) = .ok (mI (x % 998244353)) := fun x => oMod_ok (by decide)
    have d1 : ∀ x, oDiv (mI x) (mI 7) = .ok (mI (x / 7)) := fun x => oDiv_ok (by decide) (by decide)
    have q1 : ∀ x : Int, oMul (mI (x % 1000000007)) (mI (x % 1000000007)) = .ok (mI (x % 1000000007 * (x % 1000000007))) := fun x => oMul_r (by
      unfold fitI
      simp only [Bool.and_eq_true, decide_eq_true_eq]
      omega)
    by_cases hbig : 1000000000000000000 ≤ c
    · have hp : 0 < c := by omega
      simp only [↓seqS_eq, ↓ifS_eq, ↓setS_eq, ↓retS_eq, ↓augItL_eq, ↓plS2_eq, augK1_l, augK2_i, augK3_s, ↓plX_eq, ↓dropX_eq, ↓setX_eq, ↓retX_eq, ↓augS_eq, ↓parS_eq, ↓asgS_eq, ↓rIf_eq, ↓rOr_eq, ↓vAnd_eq, seqK_nx, seqK_rt, seqK_bk, setK_eq, ifK_t, ifK_f, retK_eq, rIfK_t, rIfK_f, rOrK_t, rOrK_f, R.ok_bind, R.no_bind, getV_0, getV_s, List.set_cons_zero, List.set_cons_succ, ixM_lst, atI_0, atI_1, atI_2, atI_3, ofO_some, oEq_ii, oNe_ii, oGt_ii, oGe_ii, oLt_ii, oLe_ii, oAdd_ii, oAddI_ii, oSub_ii, asB_ok, intR_ok, asIm_ok, asI_ok, cutM_ints, setItL_0, setItL_1, setItL_2, setItL_3, subM_nil, updM_nil, env0, List.map_cons, List.map_nil, List.length_cons, List.length_nil, List.cons_append, List.nil_append, decide_true, decide_false, intM_int, mLst_one, Nat.zero_add, Nat.reduceAdd, Nat.reduceSub, List.replicate_succ, List.replicate_zero, if_true, if_false, wipeE_eq, wipeR_nil, wipeR_cons, List.contains_cons, List.contains_nil, Nat.reduceBEq, Bool.or_true, Bool.true_or, Bool.or_false, Bool.false_or, cond_true, cond_false, hadd, hpow, hbig, hp, f1, f2, m1, nextS, oMod_ok hm, oDiv_ok hm hM, retFX]
      exact ⟨_, _, rfl, Int.emod_nonneg _ (by omega), Int.emod_lt_of_pos _ hm, ⟨_, _, _, _, rfl, Int.ediv_nonneg hc0 (by omega), Int.emod_nonneg _ (by decide), by omega, hl, hc⟩⟩
    · simp only [↓seqS_eq, ↓ifS_eq, ↓setS_eq, ↓retS_eq, ↓augItL_eq, ↓plS2_eq, augK1_l, augK2_i, augK3_s, ↓plX_eq, ↓dropX_eq, ↓setX_eq, ↓retX_eq, ↓augS_eq, ↓parS_eq, ↓asgS_eq, ↓rIf_eq, ↓rOr_eq, ↓vAnd_eq, seqK_nx, seqK_rt, seqK_bk, setK_eq, ifK_t, ifK_f, retK_eq, rIfK_t, rIfK_f, rOrK_t, rOrK_f, R.ok_bind, R.no_bind, getV_0, getV_s, List.set_cons_zero, List.set_cons_succ, ixM_lst, atI_0, atI_1, atI_2, atI_3, ofO_some, oEq_ii, oNe_ii, oGt_ii, oGe_ii, oLt_ii, oLe_ii, oAdd_ii, oAddI_ii, oSub_ii, asB_ok, intR_ok, asIm_ok, asI_ok, cutM_ints, setItL_0, setItL_1, setItL_2, setItL_3, subM_nil, updM_nil, env0, List.map_cons, List.map_nil, List.length_cons, List.length_nil, List.cons_append, List.nil_append, decide_true, decide_false, intM_int, mLst_one, Nat.zero_add, Nat.reduceAdd, Nat.reduceSub, List.replicate_succ, List.replicate_zero, if_true, if_false, wipeE_eq, wipeR_nil, wipeR_cons, List.contains_cons, List.contains_nil, Nat.reduceBEq, Bool.or_true, Bool.true_or, Bool.or_false, Bool.false_or, cond_true, cond_false, hadd, hpow, hbig, f1, f2, f3, f4, m1, m2, m3, d1, q1, nextS, oMod_ok hm, oDiv_ok hm hM, retFX, Int.lt_irrefl]
      exact ⟨_, _, rfl, Int.emod_nonneg _ (by omega), Int.emod_lt_of_pos _ hm, ⟨_, _, _, _, rfl, h0, Int.emod_nonneg _ (by decide), by omega, hl, hc⟩⟩
  · have hp : 0 < b0 := by omega
    simp only [↓seqS_eq, ↓ifS_eq, ↓setS_eq, ↓retS_eq, ↓augItL_eq, ↓plS2_eq, augK1_l, augK2_i, augK3_s, ↓plX_eq, ↓dropX_eq, ↓setX_eq, ↓retX_eq, ↓augS_eq, ↓parS_eq, ↓asgS_eq, ↓rIf_eq, ↓rOr_eq, ↓vAnd_eq, seqK_nx, seqK_rt, seqK_bk, setK_eq, ifK_t, ifK_f, retK_eq, rIfK_t, rIfK_f, rOrK_t, rOrK_f, R.ok_bind, R.no_bind, getV_0, getV_s, List.set_cons_zero, List.set_cons_succ, ixM_lst, atI_0, atI_1, atI_2, atI_3, ofO_some, oEq_ii, oNe_ii, oGt_ii, oGe_ii, oLt_ii, oLe_ii, oAdd_ii, oAddI_ii, oSub_ii, asB_ok, intR_ok, asIm_ok, asI_ok, cutM_ints, setItL_0, setItL_1, setItL_2, setItL_3, subM_nil, updM_nil, env0, List.map_cons, List.map_nil, List.length_cons, List.length_nil, List.cons_append, List.nil_append, decide_true, decide_false, intM_int, mLst_one, Nat.zero_add, Nat.reduceAdd, Nat.reduceSub, List.replicate_succ, List.replicate_zero, if_true, if_false, wipeE_eq, wipeR_nil, wipeR_cons, List.contains_cons, List.contains_nil, Nat.reduceBEq, Bool.or_true, Bool.true_or, Bool.or_false, Bool.false_or, cond_true, cond_false, hb, hp, oMod_ok hm, oDiv_ok hm hM, nextS, retFX]
    exact ⟨_, _, rfl, Int.emod_nonneg _ (by omega), Int.emod_lt_of_pos _ hm, ⟨_, _, _, _, rfl, Int.ediv_nonneg h0 (by omega), h1, h2, hl, hc⟩⟩
theorem take_ok {m : M} {many : Int} (C : Addr) (h : BagOk m) (hm : 0 < many) (hM : many < 1073741824) : ∃ v m', _law_take_f C m [mI many] = .ok (mI v, m') ∧ 0 ≤ v ∧ v < many ∧ BagOk m' := by
  obtain ⟨b0, b1, b2, cs, rfl, h0, h1, h2, hl, hc⟩ := h.is
  exact take_true C h0 h1 h2 hc hl hm hM
theorem bag_ok (C : Addr) (ns : List Int) (hl : ns.length ≤ 63) : ∃ m, _law_bag_f C [.scr ns] = .ok m ∧ BagOk m := by
  have hcut : cutM (.scr ns) none (some 63) = .ok (.lst ((cutA ns none (some 63)).map mI)) := rfl
  have hlen := cutA_len ns none (some 63)
  have hs : (cutA ns none (some 63)).length ≤ sizeLine := by
    show _ ≤ 2 ^ 24
    omega
  have hit : itemsM (.lst ((cutA ns none (some 63)).map mI)) = .ok ((cutA ns none (some 63)).map mI) := rfl
  unfold _law_bag_f defP _law_bag_b
  rw [if_pos (show [M.scr ns].length = 1 from rfl), retS_eq]
  rw [lcM_map (l := cutA ns none (some 63)) mI (fun i => mI (if i < 0 then -i else i))]
  · refine ⟨_, rfl, ⟨0, 1234567891, 0, (cutA ns none (some 63)).map fun i => if i < 0 then -i else i, ?_, by decide, by decide, by decide, by rw [List.length_map]; omega, ?_⟩⟩
    · rw [List.map_map]; rfl
    · intro c hc
      obtain ⟨i, _, rfl⟩ := List.mem_map.mp hc
      split <;> omega
  · simp only [↓seqS_eq, ↓ifS_eq, ↓setS_eq, ↓retS_eq, ↓augItL_eq, ↓plS2_eq, augK1_l, augK2_i, augK3_s, ↓plX_eq, ↓dropX_eq, ↓setX_eq, ↓retX_eq, ↓augS_eq, ↓parS_eq, ↓asgS_eq, ↓rIf_eq, ↓rOr_eq, ↓vAnd_eq, seqK_nx, seqK_rt, seqK_bk, setK_eq, ifK_t, ifK_f, retK_eq, rIfK_t, rIfK_f, rOrK_t, rOrK_f, R.ok_bind, R.no_bind, getV_0, getV_s, List.set_cons_zero, List.set_cons_succ, ixM_lst, atI_0, atI_1, atI_2, atI_3, ofO_some, oEq_ii, oNe_ii, oGt_ii, oGe_ii, oLt_ii, oLe_ii, oAdd_ii, oAddI_ii, oSub_ii, asB_ok, intR_ok, asIm_ok, asI_ok, cutM_ints, setItL_0, setItL_1, setItL_2, setItL_3, subM_nil, updM_nil, env0, List.map_cons, List.map_nil, List.length_cons, List.length_nil, List.cons_append, List.nil_append, decide_true, decide_false, intM_int, mLst_one, Nat.zero_add, Nat.reduceAdd, Nat.reduceSub, List.replicate_succ, List.replicate_zero, if_true, if_false, wipeE_eq, wipeR_nil, wipeR_cons, List.contains_cons, List.contains_nil, Nat.reduceBEq, Bool.or_true, Bool.true_or, Bool.or_false, Bool.false_or, cond_true, cond_false, hcut, hit]
  · exact hs
  · exact fun a _ => ⟨_, rfl, rfl, rfl⟩
theorem some_ok {m : M} {x : I} {l : List I} (C : Addr) (h : BagOk m) (hl : l.length < 1000) : ∃ (y : I) (m' : M), y ∈ x :: l ∧ _law_some_f C m [.lst ((x :: l).map .im)] = .ok (.im y, m') ∧ BagOk m' := by
  obtain ⟨v, m', e, hv, hv2, hm'⟩ := take_ok C h (many := ((l.length + 1 : Nat) : Int)) (by omega) (by omega)
  obtain ⟨j, rfl⟩ := Int.eq_ofNat_of_zero_le hv
  have hj : j < (x :: l).length := by
    rw [List.length_cons]
    omega
  refine ⟨(x :: l)[j], m', List.getElem_mem _, ?_, hm'⟩
  have e1 : lenM [.lst ((x :: l).map .im)] = .ok (mI ((l.length + 1 : Nat) : Int)) := by
    show R.ok (mI (((x :: l).map M.im).length : Nat)) = _
    rw [List.length_map]
    rfl
  have e2 : ixI (.lst ((x :: l).map .im)) (mI (j : Int)) = .ok (.im (x :: l)[j]) := by
    show (ixM (.lst ((x :: l).map .im)) (mI (j : Int)) >>= asIm) = _
    rw [ixM_lst, atI_nat (by rw [List.length_map]; exact hj), List.getElem?_map, List.getElem?_eq_getElem hj]
    rfl
  unfold _law_some_f defX _law_some_b
  simp only [List.map_cons] at e1 e2 ⊢
  simp only [↓seqS_eq, ↓ifS_eq, ↓setS_eq, ↓retS_eq, ↓augItL_eq, ↓plS2_eq, augK1_l, augK2_i, augK3_s, ↓plX_eq, ↓dropX_eq, ↓setX_eq, ↓retX_eq, ↓augS_eq, ↓parS_eq, ↓asgS_eq, ↓rIf_eq, ↓rOr_eq, ↓vAnd_eq, seqK_nx, seqK_rt, seqK_bk, setK_eq, ifK_t, ifK_f, retK_eq, rIfK_t, rIfK_f, rOrK_t, rOrK_f, R.ok_bind, R.no_bind, getV_0, getV_s, List.set_cons_zero, List.set_cons_succ, ixM_lst, atI_0, atI_1, atI_2, atI_3, ofO_some, oEq_ii, oNe_ii, oGt_ii, oGe_ii, oLt_ii, oLe_ii, oAdd_ii, oAddI_ii, oSub_ii, asB_ok, intR_ok, asIm_ok, asI_ok, cutM_ints, setItL_0, setItL_1, setItL_2, setItL_3, subM_nil, updM_nil, env0, List.map_cons, List.map_nil, List.length_cons, List.length_nil, List.cons_append, List.nil_append, decide_true, decide_false, intM_int, mLst_one, Nat.zero_add, Nat.reduceAdd, Nat.reduceSub, List.replicate_succ, List.replicate_zero, if_true, if_false, wipeE_eq, wipeR_nil, wipeR_cons, List.contains_cons, List.contains_nil, Nat.reduceBEq, Bool.or_true, Bool.true_or, Bool.or_false, Bool.false_or, cond_true, cond_false, opU, e1, e, e2, retFX]
end DL.K52
/-! LT2: framed. -/
namespace DL.K52
open PySem PySem.Spec PyProof.Rows L2 DL SX
abbrev sgn (c : Nat) : M := mS ⟨#[c]⟩
def Asc (a : List Nat) : Prop := ∀ c ∈ a, c < 128
def idx (k : Int) : List Nat → List (Int × Nat)
  | [] => []
  | c :: r => (k, c) :: idx (k + 1) r
theorem idx_len : ∀ (k : Int) (a : List Nat), (idx k a).length = a.length
  | _, [] => rfl
  | k, c :: r => congrArg (· + 1) (idx_len (k + 1) r)
theorem idx_mem : ∀ {k : Int} {a : List Nat} {p : Int × Nat}, p ∈ idx k a → p.2 ∈ a
  | k, c :: r, p, h => by
    rcases List.mem_cons.mp h with rfl | z
    · exact List.mem_cons_self ..
    · exact List.mem_cons_of_mem _ (idx_mem z)
theorem enum_sgn : ∀ (k : Int) (a : List Nat), enumFrom k (a.map sgn) = (idx k a).map fun p => mT [.int p.1, .str ⟨#[p.2]⟩]
  | _, [] => rfl
  | k, c :: r => by
    show pairM k (sgn c) :: enumFrom (k + 1) (r.map sgn) = _
    rw [enum_sgn (k + 1) r]
    rfl
theorem items_S (a : List Nat) : itemsM (mS (S a)) = .ok (a.map sgn) := rfl
theorem len_S {a : List Nat} (h : a.length ≤ sizeLine) : lenM [mS (S a)] = .ok (mI (a.length : Nat)) := by
  show (if (S a).length ≤ sizeLine then R.ok (mI ((S a).length : Nat)) else .no) = _
  rw [S_len, if_pos h]
def wsum (k : Nat) : List Nat → Nat
  | [] => 0
  | c :: r => k * c + wsum (k + 1) r
def chk (a : List Nat) : Nat := wsum 1 a % 9973
theorem sum1 : ∀ (k : Nat) (a : List Nat), ((idx (k : Int) a).map fun p => p.1 * (p.2 : Int)).sum = ((wsum k a : Nat) : Int)
  | _, [] => rfl
  | k, c :: r => by
    have := sum1 (k + 1) r
    simp only [idx, List.map_cons, List.sum_cons, wsum]
    rw [show ((k : Int) + 1) = ((k + 1 : Nat) : Int) by omega, this]
    simp
theorem sum0 : ∀ (k : Nat) (a : List Nat), ((idx (k : Int) a).map fun p => (p.1 + 1) * (p.2 : Int)).sum = ((wsum (k + 1) a : Nat) : Int)
  | _, [] => rfl
  | k, c :: r => by
    have := sum0 (k + 1) r
    simp only [idx, List.map_cons, List.sum_cons, wsum]
    rw [show ((k : Int) + 1) = ((k + 1 : Nat) : Int) by omega, this]
    simp
def frm (a : List Nat) : List Nat := TL.numL a.length ++ 32 :: (TL.numL (chk a) ++ 32 :: (a ++ [10]))
theorem ord_one (c : Nat) : ordM [mS ⟨#[c]⟩] = .ok (mI c) := rfl
theorem fit_small {c : Nat} (h : c < 128) : fitI (c : Int) = true := by
  unfold fitI
  simp only [Bool.and_eq_true, decide_eq_true_eq]
  omega
theorem sum_ints (l : List Int) : sumM [.lst (l.map mI)] = .ok (mI l.sum) := by
  unfold sumM
  simp only [allInt_of]
theorem gTup2 {i j : Nat} {x y : I} {ρ : Env} : gTupM 2 (gConsM (gSet i) (gConsM (gSet j) gNilM)) (mT [x, y]) ρ = .ok ((ρ.set i (some (.im x))).set j (some (.im y))) := rfl
theorem sz {n : Nat} (h : n ≤ 100000) : n ≤ sizeLine := by
  show n ≤ 2 ^ 24
  omega
theorem str_num (n : Nat) (h : n < 10 ^ 20) : strM [mI (n : Int)] = .ok (mS (S (TL.numL n))) := by
  show (if ((n : Int)).natAbs.log2 < 1920 then R.ok (mS (Str.ofString (toString ((n : Nat) : Int)))) else .no) = _
  rw [if_pos, num_S]
  rw [Int.natAbs_natCast]
  by_cases h0 : n = 0
  · subst h0; decide
  · have := (Nat.log2_lt h0 (k := 1920)).mpr (Nat.lt_of_lt_of_le h (by decide +kernel))
    exact this
theorem numL_small {n : Nat} (h : n < 10 ^ 10) : (TL.numL n).length ≤ 10 := TL.numL_len (by decide) h
theorem chk_lt (a : List Nat) : chk a < 9973 := Nat.mod_lt _ (by decide)
theorem frm_len {a : List Nat} (h : a.length ≤ 1000) : (frm a).length ≤ 1023 := by
  have h1 := numL_small (n := a.length) (by omega)
  have h2 := numL_small (n := chk a) (by have := chk_lt a; omega)
  unfold frm
  simp only [List.length_append, List.length_cons, List.length_nil]
  omega
theorem add_S {a b : List Nat} (h : a.length + b.length ≤ 100000) : oAdd (mS (S a)) (mS (S b)) = .ok (mS (S (a ++ b))) := by
  show (if (S a).length + (S b).length ≤ sizeLine then R.ok (mS (S a ++ S b)) else .no) = _
  rw [S_len, S_len, if_pos (sz h), S_cat]
theorem blank_S : (mS " ") = mS (S [32]) := congrArg mS (show Str.ofString " " = S [32] by decide +kernel)
theorem lf_S : (mS "\n") = mS (S [10]) := congrArg mS (show Str.ofString "\n" = S [10] by decide +kernel)
theorem law_framed (C : Addr) {a : List Nat} (hl : a.length ≤ 1000) (ha : Asc a) : _law_framed_f C [mS (S a)] = .ok (mS (S (frm a))) := by
  have n1 := numL_small (n := a.length) (by omega)
  have n2 := numL_small (n := chk a) (by have := chk_lt a; omega)
  unfold _law_framed_f defP _law_framed_b
  rw [if_pos (show [mS (S a)].length = 1 from rfl), seqS_eq, setS_eq]
  rw [lcM_map (l := idx 0 a) (fun p => mT [.int p.1, .str ⟨#[p.2]⟩]) (fun p => mI ((p.1 + 1) * (p.2 : Int)))]
  · have e : (idx 0 a).map (fun p => mI ((p.1 + 1) * (p.2 : Int))) = ((idx 0 a).map fun p => (p.1 + 1) * (p.2 : Int)).map mI := by rw [List.map_map]; rfl
    have e2 : ((idx 0 a).map fun p => (p.1 + 1) * (p.2 : Int)).sum = ((wsum 1 a : Nat) : Int) := sum0 0 a
    rw [e]
    have e3 : oMod (mI ((wsum 1 a : Nat) : Int)) (mI 9973) = .ok (mI ((chk a : Nat) : Int)) := by
      rw [oMod_ok (by decide)]
      rfl
    have l1 := len_S (a := a) (sz (by omega))
    have s1 := str_num a.length (by omega)
    have s2 := str_num (chk a) (by have := chk_lt a; omega)
    have a1 := add_S (a := TL.numL a.length) (b := [32]) (by simp; omega)
    have a2 := add_S (a := TL.numL a.length ++ [32]) (b := TL.numL (chk a)) (by simp; omega)
    have a3 := add_S (a := TL.numL a.length ++ [32] ++ TL.numL (chk a)) (b := [32]) (by simp; omega)
    have a4 := add_S (a := TL.numL a.length ++ [32] ++ TL.numL (chk a) ++ [32]) (b := a) (by simp; omega)
    have a5 := add_S (a := TL.numL a.length ++ [32] ++ TL.numL (chk a) ++ [32] ++ a) (b := [10]) (by simp; omega)
    simp only [↓seqS_eq, ↓ifS_eq, ↓setS_eq, ↓retS_eq, ↓augItL_eq, ↓plS2_eq, augK1_l, augK2_i, augK3_s, ↓plX_eq, ↓dropX_eq, ↓setX_eq, ↓retX_eq, ↓augS_eq, ↓parS_eq, ↓asgS_eq, ↓rIf_eq, ↓rOr_eq, ↓vAnd_eq, seqK_nx, seqK_rt, seqK_bk, setK_eq, ifK_t, ifK_f, retK_eq, rIfK_t, rIfK_f, rOrK_t, rOrK_f, R.ok_bind, R.no_bind, getV_0, getV_s, List.set_cons_zero, List.set_cons_succ, ixM_lst, atI_0, atI_1, atI_2, atI_3, ofO_some, oEq_ii, oNe_ii, oGt_ii, oGe_ii, oLt_ii, oLe_ii, oAdd_ii, oAddI_ii, oSub_ii, asB_ok, intR_ok, asIm_ok, asI_ok, cutM_ints, setItL_0, setItL_1, setItL_2, setItL_3, subM_nil, updM_nil, env0, List.map_cons, List.map_nil, List.length_cons, List.length_nil, List.cons_append, List.nil_append, decide_true, decide_false, intM_int, mLst_one, Nat.zero_add, Nat.reduceAdd, Nat.reduceSub, List.replicate_succ, List.replicate_zero, if_true, if_false, wipeE_eq, wipeR_nil, wipeR_cons, List.contains_cons, List.contains_nil, Nat.reduceBEq, Bool.or_true, Bool.true_or, Bool.or_false, Bool.false_or, cond_true, cond_false, sum_ints, e2, e3, l1, s1, s2, blank_S, lf_S, a1, a2, a3, a4, a5, retF]
    unfold frm
    simp only [List.append_assoc, List.cons_append, List.nil_append]
  · simp only [↓seqS_eq, ↓ifS_eq, ↓setS_eq, ↓retS_eq, ↓augItL_eq, ↓plS2_eq, augK1_l, augK2_i, augK3_s, ↓plX_eq, ↓dropX_eq, ↓setX_eq, ↓retX_eq, ↓augS_eq, ↓parS_eq, ↓asgS_eq, ↓rIf_eq, ↓rOr_eq, ↓vAnd_eq, seqK_nx, seqK_rt, seqK_bk, setK_eq, ifK_t, ifK_f, retK_eq, rIfK_t, rIfK_f, rOrK_t, rOrK_f, R.ok_bind, R.no_bind, getV_0, getV_s, List.set_cons_zero, List.set_cons_succ, ixM_lst, atI_0, atI_1, atI_2, atI_3, ofO_some, oEq_ii, oNe_ii, oGt_ii, oGe_ii, oLt_ii, oLe_ii, oAdd_ii, oAddI_ii, oSub_ii, asB_ok, intR_ok, asIm_ok, asI_ok, cutM_ints, setItL_0, setItL_1, setItL_2, setItL_3, subM_nil, updM_nil, env0, List.map_cons, List.map_nil, List.length_cons, List.length_nil, List.cons_append, List.nil_append, decide_true, decide_false, intM_int, mLst_one, Nat.zero_add, Nat.reduceAdd, Nat.reduceSub, List.replicate_succ, List.replicate_zero, if_true, if_false, wipeE_eq, wipeR_nil, wipeR_cons, List.contains_cons, List.contains_nil, Nat.reduceBEq, Bool.or_true, Bool.true_or, Bool.or_false, Bool.false_or, cond_true, cond_false, items_S]
    rw [enum_sgn]
  · rw [idx_len]; exact sz (by omega)
  · intro p hp
    refine ⟨_, gTup2, rfl, ?_⟩
    have hc := ha _ (idx_mem hp)
    simp only [↓seqS_eq, ↓ifS_eq, ↓setS_eq, ↓retS_eq, ↓augItL_eq, ↓plS2_eq, augK1_l, augK2_i, augK3_s, ↓plX_eq, ↓dropX_eq, ↓setX_eq, ↓retX_eq, ↓augS_eq, ↓parS_eq, ↓asgS_eq, ↓rIf_eq, ↓rOr_eq, ↓vAnd_eq, seqK_nx, seqK_rt, seqK_bk, setK_eq, ifK_t, ifK_f, retK_eq, rIfK_t, rIfK_f, rOrK_t, rOrK_f, R.ok_bind, R.no_bind, getV_0, getV_s, List.set_cons_zero, List.set_cons_succ, ixM_lst, atI_0, atI_1, atI_2, atI_3, ofO_some, oEq_ii, oNe_ii, oGt_ii, oGe_ii, oLt_ii, oLe_ii, oAdd_ii, oAddI_ii, oSub_ii, asB_ok, intR_ok, asIm_ok, asI_ok, cutM_ints, setItL_0, setItL_1, setItL_2, setItL_3, subM_nil, updM_nil, env0, List.map_cons, List.map_nil, List.length_cons, List.length_nil, List.cons_append, List.nil_append, decide_true, decide_false, intM_int, mLst_one, Nat.zero_add, Nat.reduceAdd, Nat.reduceSub, List.replicate_succ, List.replicate_zero, if_true, if_false, wipeE_eq, wipeR_nil, wipeR_cons, List.contains_cons, List.contains_nil, Nat.reduceBEq, Bool.or_true, Bool.true_or, Bool.or_false, Bool.false_or, cond_true, cond_false, ord_one, oMul_r (fit_small hc)]
theorem check_ok (C : Addr) {a : List Nat} (hl : a.length ≤ 1000) (ha : Asc a) : check_of_f C [mS (S a)] = .ok (mI (chk a : Nat)) := by
  unfold check_of_f defP check_of_b
  rw [if_pos (show [mS (S a)].length = 1 from rfl), retS_eq]
  rw [lcM_map (l := idx 1 a) (fun p => mT [.int p.1, .str ⟨#[p.2]⟩]) (fun p => mI (p.1 * (p.2 : Int)))]
  · have e : (idx 1 a).map (fun p => mI (p.1 * (p.2 : Int))) = ((idx 1 a).map fun p => p.1 * (p.2 : Int)).map mI := by rw [List.map_map]; rfl
    have e2 : ((idx 1 a).map fun p => p.1 * (p.2 : Int)).sum = ((wsum 1 a : Nat) : Int) := sum1 1 a
    rw [e]
    have e3 : oMod (mI ((wsum 1 a : Nat) : Int)) (mI 9973) = .ok (mI ((chk a : Nat) : Int)) := by
      rw [oMod_ok (by decide)]
      rfl
    simp only [↓seqS_eq, ↓ifS_eq, ↓setS_eq, ↓retS_eq, ↓augItL_eq, ↓plS2_eq, augK1_l, augK2_i, augK3_s, ↓plX_eq, ↓dropX_eq, ↓setX_eq, ↓retX_eq, ↓augS_eq, ↓parS_eq, ↓asgS_eq, ↓rIf_eq, ↓rOr_eq, ↓vAnd_eq, seqK_nx, seqK_rt, seqK_bk, setK_eq, ifK_t, ifK_f, retK_eq, rIfK_t, rIfK_f, rOrK_t, rOrK_f, R.ok_bind, R.no_bind, getV_0, getV_s, List.set_cons_zero, List.set_cons_succ, ixM_lst, atI_0, atI_1, atI_2, atI_3, ofO_some, oEq_ii, oNe_ii, oGt_ii, oGe_ii, oLt_ii, oLe_ii, oAdd_ii, oAddI_ii, oSub_ii, asB_ok, intR_ok, asIm_ok, asI_ok, cutM_ints, setItL_0, setItL_1, setItL_2, setItL_3, subM_nil, updM_nil, env0, List.map_cons, List.map_nil, List.length_cons, List.length_nil, List.cons_append, List.nil_append, decide_true, decide_false, intM_int, mLst_one, Nat.zero_add, Nat.reduceAdd, Nat.reduceSub, List.replicate_succ, List.replicate_zero, if_true, if_false, wipeE_eq, wipeR_nil, wipeR_cons, List.contains_cons, List.contains_nil, Nat.reduceBEq, Bool.or_true, Bool.true_or, Bool.or_false, Bool.false_or, cond_true, cond_false, sum_ints, e2, e3, retF]
  · simp only [↓seqS_eq, ↓ifS_eq, ↓setS_eq, ↓retS_eq, ↓augItL_eq, ↓plS2_eq, augK1_l, augK2_i, augK3_s, ↓plX_eq, ↓dropX_eq, ↓setX_eq, ↓retX_eq, ↓augS_eq, ↓parS_eq, ↓asgS_eq, ↓rIf_eq, ↓rOr_eq, ↓vAnd_eq, seqK_nx, seqK_rt, seqK_bk, setK_eq, ifK_t, ifK_f, retK_eq, rIfK_t, rIfK_f, rOrK_t, rOrK_f, R.ok_bind, R.no_bind, getV_0, getV_s, List.set_cons_zero, List.set_cons_succ, ixM_lst, atI_0, atI_1, atI_2, atI_3, ofO_some, oEq_ii, oNe_ii, oGt_ii, oGe_ii, oLt_ii, oLe_ii, oAdd_ii, oAddI_ii, oSub_ii, asB_ok, intR_ok, asIm_ok, asI_ok, cutM_ints, setItL_0, setItL_1, setItL_2, setItL_3, subM_nil, updM_nil, env0, List.map_cons, List.map_nil, List.length_cons, List.length_nil, List.cons_append, List.nil_append, decide_true, decide_false, intM_int, mLst_one, Nat.zero_add, Nat.reduceAdd, Nat.reduceSub, List.replicate_succ, List.replicate_zero, if_true, if_false, wipeE_eq, wipeR_nil, wipeR_cons, List.contains_cons, List.contains_nil, Nat.reduceBEq, Bool.or_true, Bool.true_or, Bool.or_false, Bool.false_or, cond_true, cond_false, items_S]
    rw [if_pos (by constructor <;> omega), enum_sgn]
  · rw [idx_len]; exact sz (by omega)
  · intro p hp
    refine ⟨_, gTup2, rfl, ?_⟩
    have hc := ha _ (idx_mem hp)
    simp only [↓seqS_eq, ↓ifS_eq, ↓setS_eq, ↓retS_eq, ↓augItL_eq, ↓plS2_eq, augK1_l, augK2_i, augK3_s, ↓plX_eq, ↓dropX_eq, ↓setX_eq, ↓retX_eq, ↓augS_eq, ↓parS_eq, ↓asgS_eq, ↓rIf_eq, ↓rOr_eq, ↓vAnd_eq, seqK_nx, seqK_rt, seqK_bk, setK_eq, ifK_t, ifK_f, retK_eq, rIfK_t, rIfK_f, rOrK_t, rOrK_f, R.ok_bind, R.no_bind, getV_0, getV_s, List.set_cons_zero, List.set_cons_succ, ixM_lst, atI_0, atI_1, atI_2, atI_3, ofO_some, oEq_ii, oNe_ii, oGt_ii, oGe_ii, oLt_ii, oLe_ii, oAdd_ii, oAddI_ii, oSub_ii, asB_ok, intR_ok, asIm_ok, asI_ok, cutM_ints, setItL_0, setItL_1, setItL_2, setItL_3, subM_nil, updM_nil, env0, List.map_cons, List.map_nil, List.length_cons, List.length_nil, List.cons_append, List.nil_append, decide_true, decide_false, intM_int, mLst_one, Nat.zero_add, Nat.reduceAdd, Nat.reduceSub, List.replicate_succ, List.replicate_zero, if_true, if_false, wipeE_eq, wipeR_nil, wipeR_cons, List.contains_cons, List.contains_nil, Nat.reduceBEq, Bool.or_true, Bool.true_or, Bool.or_false, Bool.false_or, cond_true, cond_false, ord_one, oMul_r (fit_small hc)]
theorem fmt_S {a : List Nat} (h : a.length ≤ 100000) : fmtM (mS (S a)) = .ok (mS (S a)) := by
  show (if (S a).length ≤ sizeLine then R.ok (mS (S a)) else .no) = _
  rw [S_len, if_pos (sz h)]
theorem fmt_num (n : Nat) (h : n < 10 ^ 20) : fmtM (mI (n : Int)) = .ok (mS (S (TL.numL n))) := str_num n h
theorem joined_cons {f : DL.Env → R M} {fs : List (DL.Env → R M)} {a b : List Nat} {ρ : DL.Env} (h : f ρ = .ok (mS (S b))) (hl : a.length + b.length ≤ 100000) : joinedR (f :: fs) (S a) ρ = joinedR fs (S (a ++ b)) ρ := by
  show (f ρ >>= fun m => strR m >>= fun y => if (S a ++ y).length ≤ sizeLine then joinedR fs (S a ++ y) ρ else .no) = _
  rw [h]
  show (if (S a ++ S b).length ≤ sizeLine then joinedR fs (S a ++ S b) ρ else .no) = _
  rw [S_cat, S_len, if_pos (sz (by rw [List.length_append]; exact hl))]
theorem framed_ok (C : Addr) {a : List Nat} (hl : a.length ≤ 1000) (ha : Asc a) : framed_f C [mS (S a)] = .ok (mS (S (frm a))) := by
  have n1 := numL_small (n := a.length) (by omega)
  have n2 := numL_small (n := chk a) (by have := chk_lt a; omega)
  have l1 := len_S (a := a) (sz (by omega))
  have c1 := check_ok C hl ha
  have s1 := fmt_num a.length (by omega)
  have s2 := fmt_num (chk a) (by have := chk_lt a; omega)
  have s3 := fmt_S (a := a) (by omega)
  unfold framed_f defP framed_b
  rw [if_pos (show [mS (S a)].length = 1 from rfl), retS_eq]
  rw [show Str.empty = S [] from rfl]
  rw [joined_cons (b := TL.numL a.length) (by simp only [↓seqS_eq, ↓ifS_eq, ↓setS_eq, ↓retS_eq, ↓augItL_eq, ↓plS2_eq, augK1_l, augK2_i, augK3_s, ↓plX_eq, ↓dropX_eq, ↓setX_eq, ↓retX_eq, ↓augS_eq, ↓parS_eq, ↓asgS_eq, ↓rIf_eq, ↓rOr_eq, ↓vAnd_eq, seqK_nx, seqK_rt, seqK_bk, setK_eq, ifK_t, ifK_f, retK_eq, rIfK_t, rIfK_f, rOrK_t, rOrK_f, R.ok_bind, R.no_bind, getV_0, getV_s, List.set_cons_zero, List.set_cons_succ, ixM_lst, atI_0, atI_1, atI_2, atI_3, ofO_some, oEq_ii, oNe_ii, oGt_ii, oGe_ii, oLt_ii, oLe_ii, oAdd_ii, oAddI_ii, oSub_ii, asB_ok, intR_ok, asIm_ok, asI_ok, cutM_ints, setItL_0, setItL_1, setItL_2, setItL_3, subM_nil, updM_nil, env0, List.map_cons, List.map_nil, List.length_cons, List.length_nil, List.cons_append, List.nil_append, decide_true, decide_false, intM_int, mLst_one, Nat.zero_add, Nat.reduceAdd, Nat.reduceSub, List.replicate_succ, List.replicate_zero, if_true, if_false, wipeE_eq, wipeR_nil, wipeR_cons, List.contains_cons, List.contains_nil, Nat.reduceBEq, Bool.or_true, Bool.true_or, Bool.or_false, Bool.false_or, cond_true, cond_false, l1, s1]) (by simp; omega)]
  rw [joined_cons (b := [32]) (congrArg R.ok blank_S) (by simp; omega)]
  rw [joined_cons (b := TL.numL (chk a)) (by simp only [↓seqS_eq, ↓ifS_eq, ↓setS_eq, ↓retS_eq, ↓augItL_eq, ↓plS2_eq, augK1_l, augK2_i, augK3_s, ↓plX_eq, ↓dropX_eq, ↓setX_eq, ↓retX_eq, ↓augS_eq, ↓parS_eq, ↓asgS_eq, ↓rIf_eq, ↓rOr_eq, ↓vAnd_eq, seqK_nx, seqK_rt, seqK_bk, setK_eq, ifK_t, ifK_f, retK_eq, rIfK_t, rIfK_f, rOrK_t, rOrK_f, R.ok_bind, R.no_bind, getV_0, getV_s, List.set_cons_zero, List.set_cons_succ, ixM_lst, atI_0, atI_1, atI_2, atI_3, ofO_some, oEq_ii, oNe_ii, oGt_ii, oGe_ii, oLt_ii, oLe_ii, oAdd_ii, oAddI_ii, oSub_ii, asB_ok, intR_ok, asIm_ok, asI_ok, cutM_ints, setItL_0, setItL_1, setItL_2, setItL_3, subM_nil, updM_nil, env0, List.map_cons, List.map_nil, List.length_cons, List.length_nil, List.cons_append, List.nil_append, decide_true, decide_false, intM_int, mLst_one, Nat.zero_add, Nat.reduceAdd, Nat.reduceSub, List.replicate_succ, List.replicate_zero, if_true, if_false, wipeE_eq, wipeR_nil, wipeR_cons, List.contains_cons, List.contains_nil, Nat.reduceBEq, Bool.or_true, Bool.true_or, Bool.or_false, Bool.false_or, cond_true, cond_false, c1, s2]) (by simp; omega)]
  rw [joined_cons (b := [32]) (congrArg R.ok blank_S) (by simp; omega)]
  rw [joined_cons (b := a) (by simp only [↓seqS_eq, ↓ifS_eq, ↓setS_eq, ↓retS_eq, ↓augItL_eq, ↓plS2_eq, augK1_l, augK2_i, augK3_s, ↓plX_eq, ↓dropX_eq, ↓setX_eq, ↓retX_eq, ↓augS_eq, ↓parS_eq, ↓asgS_eq, ↓rIf_eq, ↓rOr_eq, ↓vAnd_eq, seqK_nx, seqK_rt, seqK_bk, setK_eq, ifK_t, ifK_f, retK_eq, rIfK_t, rIfK_f, rOrK_t, rOrK_f, R.ok_bind, R.no_bind, getV_0, getV_s, List.set_cons_zero, List.set_cons_succ, ixM_lst, atI_0, atI_1, atI_2, atI_3, ofO_some, oEq_ii, oNe_ii, oGt_ii, oGe_ii, oLt_ii, oLe_ii, oAdd_ii, oAddI_ii, oSub_ii, asB_ok, intR_ok, asIm_ok, asI_ok, cutM_ints, setItL_0, setItL_1, setItL_2, setItL_3, subM_nil, updM_nil, env0, List.map_cons, List.map_nil, List.length_cons, List.length_nil, List.cons_append, List.nil_append, decide_true, decide_false, intM_int, mLst_one, Nat.zero_add, Nat.reduceAdd, Nat.reduceSub, List.replicate_succ, List.replicate_zero, if_true, if_false, wipeE_eq, wipeR_nil, wipeR_cons, List.contains_cons, List.contains_nil, Nat.reduceBEq, Bool.or_true, Bool.true_or, Bool.or_false, Bool.false_or, cond_true, cond_false, s3]) (by simp; omega)]
  rw [joined_cons (b := [10]) (congrArg R.ok lf_S) (by simp; omega)]
  have e : [] ++ TL.numL a.length ++ [32] ++ TL.numL (chk a) ++ [32] ++ a ++ [10] = frm a := by
    unfold frm
    simp only [List.append_assoc, List.cons_append, List.nil_append]
  rw [e]
  rfl
end DL.K52
/-! LT3: find of one sign between two places. -/
namespace DL.K52
open PySem PySem.Spec PyProof.Rows L2 DL SX
open PySem.Builtin PySem.Builtin.Str
/-- the first c of l, counted from k -/
def first (c : Nat) (k : Nat) : List Nat → Option Nat
  | [] => none
  | d :: r => if d = c then some k else first c (k + 1) r
theorem first_ge {c : Nat} : ∀ {k : Nat} {l : List Nat} {i : Nat}, first c k l = some i → k ≤ i ∧ i < k + l.length ∧ l[i - k]? = some c ∧ ∀ j, j < i - k → l[j]? ≠ some c
  | k, d :: r, i, h => by
    unfold first at h
    split at h
    · rename_i e
      cases h
      refine ⟨Nat.le_refl _, by simp, by simp [e], fun j hj => by omega⟩
    · rename_i e
      obtain ⟨h1, h2, h3, h4⟩ := first_ge h
      refine ⟨by omega, by simp; omega, ?_, fun j hj => ?_⟩
      · rw [show i - k = (i - (k + 1)) + 1 by omega]; exact h3
      · cases j with
        | zero => simp; exact e
        | succ j => exact h4 j (by omega)
theorem occ_full {x y : Str} {hi : Nat} : ∀ (l : List Nat) (st : Array Nat × Nat), st.fst.size = 1 → (forIn l st (StrLaws.occBody x y hi 1)).run.fst = st.fst
  | [], st, _ => rfl
  | a :: l, st, h => by
    rw [List.forIn_cons]
    unfold StrLaws.occBody
    rw [if_neg (fun z => by have := z.1.1.1; omega)]
    exact occ_full l _ h
theorem occ_one {x : Str} {c : Nat} {hi : Nat} (hh : hi ≤ x.length) : ∀ (n lo free : Nat), lo + n = hi + 1 → free ≤ lo →
    (forIn (List.range' lo n) ((#[] : Array Nat), free) (StrLaws.occBody x ⟨#[c]⟩ hi 1)).run.fst.toList = (match first c lo ((x.cps.toList.take hi).drop lo) with | some k => [k] | none => [])
  | 0, lo, free, h, _ => by
    rw [List.drop_eq_nil_of_le (by rw [List.length_take]; omega)]
    rfl
  | n + 1, lo, free, h, hf => by
    have hlen : x.cps.toList.length = x.length := Array.length_toList
    rw [List.range'_succ, List.forIn_cons]
    unfold StrLaws.occBody
    by_cases hlo : lo < hi
    · have e : (x.cps.toList.take hi).drop lo = x.cps.toList[lo] :: (x.cps.toList.take hi).drop (lo + 1) := by
        rw [List.drop_eq_getElem_cons (by rw [List.length_take]; omega), List.getElem_take]
      have q := StrLaws.subAt_one x c lo
      rw [e]
      unfold first
      by_cases hc : x.cps.toList[lo] = c
      · have q2 := q.mpr (by rw [List.getElem?_eq_getElem (by omega), hc])
        rw [if_pos (by refine ⟨⟨⟨by simp, hf⟩, by show lo + 1 ≤ hi; omega⟩, q2.2⟩), if_pos hc]
        show (forIn (List.range' (lo + 1) n) _ (StrLaws.occBody x ⟨#[c]⟩ hi 1)).run.fst.toList = _
        rw [occ_full _ _ (by simp)]
        rfl
      · rw [if_neg (fun z => hc (by
          have := q.mp ⟨by show lo + 1 ≤ x.length; omega, z.2⟩
          rw [List.getElem?_eq_getElem (by omega)] at this
          exact Option.some.inj this)), if_neg hc]
        exact occ_one hh n (lo + 1) free (by omega) (by omega)
    · rw [if_neg (fun z => by
        have : lo + 1 ≤ hi := z.1.2
        omega)]
      have := occ_one hh n (lo + 1) free (by omega) (by omega) (c := c)
      rw [List.drop_eq_nil_of_le (by rw [List.length_take]; omega)] at this ⊢
      exact this
def posO : Option Nat → Int
  | some k => (k : Int)
  | none => -1
theorem findIn_S {a : List Nat} {c b e : Nat} (hb : b ≤ a.length) : Txt.findIn (S a) (S [c]) (b : Nat) (e : Nat) = posO (first c b ((a.take e).drop b)) := by
  have f1 : fromIndex (S a).length (b : Nat) = b := by
    unfold fromIndex
    rw [if_neg (by omega)]
    omega
  have f2 : toIndexW (S a).length (e : Nat) = min e a.length := by
    unfold toIndexW
    rw [if_neg (by omega), S_len]
    omega
  have h3 : (a.take (min e a.length)) = a.take e := by
    rw [List.take_eq_take_iff]
    omega
  unfold Txt.findIn
  rw [f1, f2, StrLaws.occ_eq]
  by_cases h : b ≤ min e a.length + 1
  · have h0 := occ_one (x := S a) (c := c) (hi := min e a.length) (by rw [S_len]; omega) (min e a.length + 1 - b) b b (by omega) (Nat.le_refl _)
    rw [h0, show (S a).cps.toList = a from rfl, h3]
    cases first c b ((a.take e).drop b) <;> rfl
  · rw [show min e a.length + 1 - b = 0 by omega]
    rw [List.drop_eq_nil_of_le (by rw [List.length_take]; omega)]
    rfl
end DL.K52
/-! LT4: number_at. -/
namespace DL.K52
open PySem PySem.Spec PyProof.Rows L2 DL SX
theorem eqD_ss (x y : Str) : eqD (mS x) (mS y) = .ok (x == y) := by
  unfold eqD
  simp only [dM, dI, PyData.depth, PyData.eqv]
  rfl
theorem oEq_ss (x y : Str) : oEq (mS x) (mS y) = .ok (mB (x == y)) := by
  show (eqD (mS x) (mS y) >>= fun b => R.ok (mB b)) = _
  rw [eqD_ss]; rfl
theorem oNe_ss (x y : Str) : oNe (mS x) (mS y) = .ok (mB (!(x == y))) := by
  show (eqD (mS x) (mS y) >>= fun b => R.ok (mB (!b))) = _
  rw [eqD_ss]; rfl
theorem oEq_SS (a b : List Nat) : oEq (mS (S a)) (mS (S b)) = .ok (mB (decide (a = b))) := by rw [oEq_ss, S_beq_eq]
theorem oNe_SS (a b : List Nat) : oNe (mS (S a)) (mS (S b)) = .ok (mB (!decide (a = b))) := by rw [oNe_ss, S_beq_eq]
theorem nil_S : (mS "") = mS (S []) := congrArg mS (show Str.ofString "" = S [] by decide +kernel)
theorem zero_S : (mS "0") = mS (S [48]) := congrArg mS (show Str.ofString "0" = S [48] by decide +kernel)
theorem nine_S : (mS "9") = mS (S [57]) := congrArg mS (show Str.ofString "9" = S [57] by decide +kernel)
theorem cutM_S {a : List Nat} (lo hi : Option Int) (h : a.length ≤ 100000) : cutM (mS (S a)) lo hi = .ok (mS (S (cutA a lo hi))) := by
  show (if (S a).length ≤ sizeLine then R.ok (mS (cutS (S a) lo hi)) else .no) = _
  rw [S_len, if_pos (sz h)]
  unfold cutS cutA
  rw [S_len]
theorem cutA_nn {α : Type} {a : List α} {i j : Nat} (hi : i ≤ a.length) : cutA a (some (i : Int)) (some (j : Int)) = (a.drop i).take (j - i) := by
  unfold cutA
  rw [HT.sIx_nat, HT.sIx_nat, Nat.min_eq_left hi]
  by_cases h : j ≤ a.length
  · rw [Nat.min_eq_left h]
  · rw [Nat.min_eq_right (by omega), List.take_of_length_le (by rw [List.length_drop]; omega), List.take_of_length_le (by rw [List.length_drop]; omega)]
theorem cutA_n {α : Type} {a : List α} {i : Nat} : cutA a (some (i : Int)) none = a.drop i := by
  unfold cutA
  rw [HT.sIx_nat, HT.sIx_none]
  by_cases h : i ≤ a.length
  · rw [Nat.min_eq_left h, List.take_of_length_le (by rw [List.length_drop]; omega)]
  · rw [Nat.min_eq_right (by omega), List.drop_eq_nil_of_le (Nat.le_refl _), List.drop_eq_nil_of_le (by omega), List.take_nil]
theorem cutA_t {α : Type} {a : List α} {j : Nat} : cutA a none (some (j : Int)) = a.take j := by
  unfold cutA
  rw [HT.sIx_nat, HT.sIx_none, List.drop_zero, Nat.sub_zero]
  by_cases h : j ≤ a.length
  · rw [Nat.min_eq_left h]
  · rw [Nat.min_eq_right (by omega), List.take_of_length_le (Nat.le_refl _), List.take_of_length_le (by omega)]
def dig (c : Nat) : Bool := decide (48 ≤ c) && decide (c ≤ 57)
theorem lt1 (a b : Nat) : ([a] < [b]) ↔ a < b := by
  rw [List.cons_lt_cons_iff]
  constructor
  · rintro (h | ⟨_, h⟩)
    · exact h
    · exact absurd h (List.lt_irrefl _)
  · exact .inl
theorem le_sgn (a b : Nat) : oLe (mS (S [a])) (mS (S [b])) = .ok (mB (decide (a ≤ b))) := by
  show R.ok (mB (!decide ([b] < [a]))) = _
  have : (!decide ([b] < [a])) = decide (a ≤ b) := by
    rw [Bool.eq_iff_iff, Bool.not_eq_true', decide_eq_false_iff_not, decide_eq_true_eq, lt1]
    omega
  rw [this]
theorem dig_run (c : Nat) : chain oLe oLe (mS (S [48])) (sgn c) (fun _ => R.ok (mS (S [57]))) = .ok (mB (dig c)) := by
  unfold chain
  rw [show sgn c = mS (S [c]) from rfl, le_sgn]
  simp only [R.ok_bind, asB_ok]
  unfold dig
  cases h : decide (48 ≤ c) with
  | true =>
    simp only [if_true, le_sgn, R.ok_bind, Bool.true_and]
  | false => rfl
theorem all_bs (l : List Bool) : allM [.lst (l.map mB)] = .ok (mB (l.all id)) := by
  unfold allM quaM
  simp only [allBl_of]
theorem int_dig {p : List Nat} (h : p.all dig = true) (hn : p ≠ []) (hl : p.length ≤ 600) : intM [mS (S p)] = .ok (mI (NumText.digitsVal p : Nat)) := by
  show (match PySem.intText? (S p) with
    | some n => if (S p).length ≤ 640 then R.ok (mI n) else .no
    | none => .no) = _
  rw [int_S h hn (by omega)]
  show (if (S p).length ≤ 640 then _ else _) = _
  rw [S_len, if_pos (by omega)]
def numW (p : List Nat) (e : Nat) : M := if p = [] ∨ p.all dig = false then mN else mT [.int (NumText.digitsVal p : Nat), .int ((e + 1 : Nat) : Int)]
def numM (a : List Nat) (b : Nat) : M := match first 32 b ((a.take (b + 12)).drop b) with
  | none => mN
  | some e => numW ((a.drop b).take (e - b)) e
theorem mTup2 (x y : I) : mTup [.im x, .im y] = .ok (mT [x, y]) := rfl
theorem number_run (C : Addr) {a : List Nat} {b : Nat} (hl : a.length ≤ 1000) (hb : b ≤ a.length) : number_at_f C [mS (S a), mI (b : Nat)] = .ok (numM a b) := by
  have hf : findM (mS (S a)) [mS (S [32]), mI (b : Nat), mI ((b : Int) + 12)] = .ok (mI (posO (first 32 b ((a.take (b + 12)).drop b)))) := by
    show R.ok (mI (Txt.findIn (S a) (S [32]) (b : Nat) ((b : Int) + 12))) = _
    rw [show ((b : Int) + 12) = ((b + 12 : Nat) : Int) by omega, findIn_S hb]
  unfold number_at_f defP number_at_b numM
  rw [if_pos (show [mS (S a), mI (b : Nat)].length = 2 from rfl)]
  cases q : first 32 b ((a.take (b + 12)).drop b) with
  | none =>
    rw [q] at hf
    have hf : findM (mS (S a)) [mS (S [32]), mI (b : Nat), mI ((b : Int) + 12)] = .ok (mI (-1)) := hf
    have h0 : decide ((b : Int) < -1) = false := by rw [decide_eq_false_iff_not]; omega
    have e0 : oEq (mS (S [])) (mS (S [])) = .ok (mB true) := by rw [oEq_SS]; rfl
    simp only [↓seqS_eq, ↓ifS_eq, ↓setS_eq, ↓retS_eq, ↓augItL_eq, ↓plS2_eq, augK1_l, augK2_i, augK3_s, ↓plX_eq, ↓dropX_eq, ↓setX_eq, ↓retX_eq, ↓augS_eq, ↓parS_eq, ↓asgS_eq, ↓rIf_eq, ↓rOr_eq, ↓vAnd_eq, seqK_nx, seqK_rt, seqK_bk, setK_eq, ifK_t, ifK_f, retK_eq, rIfK_t, rIfK_f, rOrK_t, rOrK_f, R.ok_bind, R.no_bind, getV_0, getV_s, List.set_cons_zero, List.set_cons_succ, ixM_lst, atI_0, atI_1, atI_2, atI_3, ofO_some, oEq_ii, oNe_ii, oGt_ii, oGe_ii, oLt_ii, oLe_ii, oAdd_ii, oAddI_ii, oSub_ii, asB_ok, intR_ok, asIm_ok, asI_ok, cutM_ints, setItL_0, setItL_1, setItL_2, setItL_3, subM_nil, updM_nil, env0, List.map_cons, List.map_nil, List.length_cons, List.length_nil, List.cons_append, List.nil_append, decide_true, decide_false, intM_int, mLst_one, Nat.zero_add, Nat.reduceAdd, Nat.reduceSub, List.replicate_succ, List.replicate_zero, if_true, if_false, wipeE_eq, wipeR_nil, wipeR_cons, List.contains_cons, List.contains_nil, Nat.reduceBEq, Bool.or_true, Bool.true_or, Bool.or_false, Bool.false_or, cond_true, cond_false, blank_S, nil_S, hf, h0, e0, retF]
  | some e =>
    rw [q] at hf
    have hf : findM (mS (S a)) [mS (S [32]), mI (b : Nat), mI ((b : Int) + 12)] = .ok (mI (e : Int)) := hf
    obtain ⟨g1, g2, _, _⟩ := first_ge q
    have g3 : e ≤ a.length := by
      simp only [List.length_drop, List.length_take] at g2
      omega
    have hcut : cutM (mS (S a)) (some (b : Int)) (some (e : Int)) = .ok (mS (S ((a.drop b).take (e - b)))) := by rw [cutM_S _ _ (by omega), cutA_nn hb]
    show _ = R.ok (numW ((a.drop b).take (e - b)) e)
    generalize hp : (a.drop b).take (e - b) = p at *
    have hpl : p.length = e - b := by
      rw [← hp, List.length_take, List.length_drop]; omega
    unfold numW
    by_cases heb : e = b
    · have h0 : decide ((b : Int) < (e : Int)) = false := by rw [decide_eq_false_iff_not]; omega
      have hp0 : p = [] := List.eq_nil_of_length_eq_zero (by omega)
      have e0 : oEq (mS (S [])) (mS (S [])) = .ok (mB true) := by rw [oEq_SS]; rfl
      rw [if_pos (.inl hp0)]
      simp only [↓seqS_eq, ↓ifS_eq, ↓setS_eq, ↓retS_eq, ↓augItL_eq, ↓plS2_eq, augK1_l, augK2_i, augK3_s, ↓plX_eq, ↓dropX_eq, ↓setX_eq, ↓retX_eq, ↓augS_eq, ↓parS_eq, ↓asgS_eq, ↓rIf_eq, ↓rOr_eq, ↓vAnd_eq, seqK_nx, seqK_rt, seqK_bk, setK_eq, ifK_t, ifK_f, retK_eq, rIfK_t, rIfK_f, rOrK_t, rOrK_f, R.ok_bind, R.no_bind, getV_0, getV_s, List.set_cons_zero, List.set_cons_succ, ixM_lst, atI_0, atI_1, atI_2, atI_3, ofO_some, oEq_ii, oNe_ii, oGt_ii, oGe_ii, oLt_ii, oLe_ii, oAdd_ii, oAddI_ii, oSub_ii, asB_ok, intR_ok, asIm_ok, asI_ok, cutM_ints, setItL_0, setItL_1, setItL_2, setItL_3, subM_nil, updM_nil, env0, List.map_cons, List.map_nil, List.length_cons, List.length_nil, List.cons_append, List.nil_append, decide_true, decide_false, intM_int, mLst_one, Nat.zero_add, Nat.reduceAdd, Nat.reduceSub, List.replicate_succ, List.replicate_zero, if_true, if_false, wipeE_eq, wipeR_nil, wipeR_cons, List.contains_cons, List.contains_nil, Nat.reduceBEq, Bool.or_true, Bool.true_or, Bool.or_false, Bool.false_or, cond_true, cond_false, blank_S, nil_S, hf, h0, e0, retF]
    · have h0 : decide ((b : Int) < (e : Int)) = true := by rw [decide_eq_true_eq]; omega
      have hp0 : p ≠ [] := fun z => by rw [z] at hpl; simp at hpl; omega
      have e0 : oEq (mS (S p)) (mS (S [])) = .ok (mB false) := by rw [oEq_SS, decide_eq_false hp0]
      have hlc : ∀ (ρ : DL.Env), ρ = [some (mS (S a)), some (mI (b : Nat)), some (mI (e : Int)), some (mS (S p)), none] → lcM [4] (fun ρ => getV ρ 3 >>= itemsM) (gSet 4) yesM (fun ρ => R.ok (mS "0") >>= fun x => getV ρ 4 >>= fun y => chain oLe oLe x y fun _ => R.ok (mS "9")) ρ = .ok (.lst (p.map fun c => mB (dig c))) := fun ρ hρ => by
        subst hρ
        refine lcM_map sgn (fun c => mB (dig c)) ?_ (sz (by omega)) fun c _ => ⟨_, rfl, rfl, ?_⟩
        · simp only [↓seqS_eq, ↓ifS_eq, ↓setS_eq, ↓retS_eq, ↓augItL_eq, ↓plS2_eq, augK1_l, augK2_i, augK3_s, ↓plX_eq, ↓dropX_eq, ↓setX_eq, ↓retX_eq, ↓augS_eq, ↓parS_eq, ↓asgS_eq, ↓rIf_eq, ↓rOr_eq, ↓vAnd_eq, seqK_nx, seqK_rt, seqK_bk, setK_eq, ifK_t, ifK_f, retK_eq, rIfK_t, rIfK_f, rOrK_t, rOrK_f, R.ok_bind, R.no_bind, getV_0, getV_s, List.set_cons_zero, List.set_cons_succ, ixM_lst, atI_0, atI_1, atI_2, atI_3, ofO_some, oEq_ii, oNe_ii, oGt_ii, oGe_ii, oLt_ii, oLe_ii, oAdd_ii, oAddI_ii, oSub_ii, asB_ok, intR_ok, asIm_ok, asI_ok, cutM_ints, setItL_0, setItL_1, setItL_2, setItL_3, subM_nil, updM_nil, env0, List.map_cons, List.map_nil, List.length_cons, List.length_nil, List.cons_append, List.nil_append, decide_true, decide_false, intM_int, mLst_one, Nat.zero_add, Nat.reduceAdd, Nat.reduceSub, List.replicate_succ, List.replicate_zero, if_true, if_false, wipeE_eq, wipeR_nil, wipeR_cons, List.contains_cons, List.contains_nil, Nat.reduceBEq, Bool.or_true, Bool.true_or, Bool.or_false, Bool.false_or, cond_true, cond_false, items_S]
        · simp only [↓seqS_eq, ↓ifS_eq, ↓setS_eq, ↓retS_eq, ↓augItL_eq, ↓plS2_eq, augK1_l, augK2_i, augK3_s, ↓plX_eq, ↓dropX_eq, ↓setX_eq, ↓retX_eq, ↓augS_eq, ↓parS_eq, ↓asgS_eq, ↓rIf_eq, ↓rOr_eq, ↓vAnd_eq, seqK_nx, seqK_rt, seqK_bk, setK_eq, ifK_t, ifK_f, retK_eq, rIfK_t, rIfK_f, rOrK_t, rOrK_f, R.ok_bind, R.no_bind, getV_0, getV_s, List.set_cons_zero, List.set_cons_succ, ixM_lst, atI_0, atI_1, atI_2, atI_3, ofO_some, oEq_ii, oNe_ii, oGt_ii, oGe_ii, oLt_ii, oLe_ii, oAdd_ii, oAddI_ii, oSub_ii, asB_ok, intR_ok, asIm_ok, asI_ok, cutM_ints, setItL_0, setItL_1, setItL_2, setItL_3, subM_nil, updM_nil, env0, List.map_cons, List.map_nil, List.length_cons, List.length_nil, List.cons_append, List.nil_append, decide_true, decide_false, intM_int, mLst_one, Nat.zero_add, Nat.reduceAdd, Nat.reduceSub, List.replicate_succ, List.replicate_zero, if_true, if_false, wipeE_eq, wipeR_nil, wipeR_cons, List.contains_cons, List.contains_nil, Nat.reduceBEq, Bool.or_true, Bool.true_or, Bool.or_false, Bool.false_or, cond_true, cond_false, zero_S, nine_S, dig_run]
      have hlc := hlc _ rfl
      have hal : allM [.lst (p.map fun c => mB (dig c))] = .ok (mB (p.all dig)) := by
        have := all_bs (p.map dig)
        rw [List.map_map, List.all_map] at this
        exact this
      simp only [R.ok_bind] at hlc
      have hsucc : oAdd (mI (e : Int)) (mI 1) = .ok (mI ((e + 1 : Nat) : Int)) := rfl
      cases hd : p.all dig with
      | false =>
        rw [if_pos (.inr rfl)]
        simp only [↓seqS_eq, ↓ifS_eq, ↓setS_eq, ↓retS_eq, ↓augItL_eq, ↓plS2_eq, augK1_l, augK2_i, augK3_s, ↓plX_eq, ↓dropX_eq, ↓setX_eq, ↓retX_eq, ↓augS_eq, ↓parS_eq, ↓asgS_eq, ↓rIf_eq, ↓rOr_eq, ↓vAnd_eq, seqK_nx, seqK_rt, seqK_bk, setK_eq, ifK_t, ifK_f, retK_eq, rIfK_t, rIfK_f, rOrK_t, rOrK_f, R.ok_bind, R.no_bind, getV_0, getV_s, List.set_cons_zero, List.set_cons_succ, ixM_lst, atI_0, atI_1, atI_2, atI_3, ofO_some, oEq_ii, oNe_ii, oGt_ii, oGe_ii, oLt_ii, oLe_ii, oAdd_ii, oAddI_ii, oSub_ii, asB_ok, intR_ok, asIm_ok, asI_ok, cutM_ints, setItL_0, setItL_1, setItL_2, setItL_3, subM_nil, updM_nil, env0, List.map_cons, List.map_nil, List.length_cons, List.length_nil, List.cons_append, List.nil_append, decide_true, decide_false, intM_int, mLst_one, Nat.zero_add, Nat.reduceAdd, Nat.reduceSub, List.replicate_succ, List.replicate_zero, if_true, if_false, wipeE_eq, wipeR_nil, wipeR_cons, List.contains_cons, List.contains_nil, Nat.reduceBEq, Bool.or_true, Bool.true_or, Bool.or_false, Bool.false_or, cond_true, cond_false, blank_S, nil_S, hf, h0, hcut, e0, hlc, hal, hd, Bool.not_false, retF]
      | true =>
        rw [if_neg (by simp [hp0])]
        have hi := int_dig hd hp0 (by
          simp only [List.length_drop, List.length_take] at g2
          omega)
        simp only [↓seqS_eq, ↓ifS_eq, ↓setS_eq, ↓retS_eq, ↓augItL_eq, ↓plS2_eq, augK1_l, augK2_i, augK3_s, ↓plX_eq, ↓dropX_eq, ↓setX_eq, ↓retX_eq, ↓augS_eq, ↓parS_eq, ↓asgS_eq, ↓rIf_eq, ↓rOr_eq, ↓vAnd_eq, seqK_nx, seqK_rt, seqK_bk, setK_eq, ifK_t, ifK_f, retK_eq, rIfK_t, rIfK_f, rOrK_t, rOrK_f, R.ok_bind, R.no_bind, getV_0, getV_s, List.set_cons_zero, List.set_cons_succ, ixM_lst, atI_0, atI_1, atI_2, atI_3, ofO_some, oEq_ii, oNe_ii, oGt_ii, oGe_ii, oLt_ii, oLe_ii, oAdd_ii, oAddI_ii, oSub_ii, asB_ok, intR_ok, asIm_ok, asI_ok, cutM_ints, setItL_0, setItL_1, setItL_2, setItL_3, subM_nil, updM_nil, env0, List.map_cons, List.map_nil, List.length_cons, List.length_nil, List.cons_append, List.nil_append, decide_true, decide_false, intM_int, mLst_one, Nat.zero_add, Nat.reduceAdd, Nat.reduceSub, List.replicate_succ, List.replicate_zero, if_true, if_false, wipeE_eq, wipeR_nil, wipeR_cons, List.contains_cons, List.contains_nil, Nat.reduceBEq, Bool.or_true, Bool.true_or, Bool.or_false, Bool.false_or, cond_true, cond_false, blank_S, nil_S, hf, h0, hcut, e0, hlc, hal, hd, Bool.not_true, nextS, hi, mTup2, retF]
        rfl
end DL.K52
/-! LT5: frame_at. -/
namespace DL.K52
open PySem PySem.Spec PyProof.Rows L2 DL SX
theorem first_app {c : Nat} : ∀ {k : Nat} {p s : List Nat}, c ∉ p → first c k (p ++ c :: s) = some (k + p.length)
  | k, [], s, _ => by
    show (if c = c then some k else _) = _
    rw [if_pos rfl]
    rfl
  | k, d :: p, s, h => by
    show (if d = c then some k else first c (k + 1) (p ++ c :: s)) = _
    rw [if_neg (fun e => h (by rw [e]; exact List.mem_cons_self ..)), first_app (fun z => h (List.mem_cons_of_mem _ z)), List.length_cons]
    congr 1
    omega
theorem win {a : List Nat} {b : Nat} : (a.take (b + 12)).drop b = (a.drop b).take 12 := by
  rw [List.drop_take]
  congr 1
  omega
theorem numM_yes {a p r : List Nat} {b : Nat} (h : a.drop b = p ++ 32 :: r) (h32 : 32 ∉ p) (hn : p ≠ []) (hd : p.all dig = true) (hl : p.length < 12) : numM a b = mT [.int (NumText.digitsVal p : Nat), .int ((b + p.length + 1 : Nat) : Int)] := by
  unfold numM
  have e : (p ++ 32 :: r).take 12 = p ++ 32 :: r.take (11 - p.length) := by
    rw [List.take_append, List.take_of_length_le (by omega), show 12 - p.length = (11 - p.length) + 1 by omega, List.take_succ_cons]
  rw [win, h, e, first_app h32]
  show numW ((p ++ 32 :: r).take (b + p.length - b)) (b + p.length) = _
  rw [show b + p.length - b = p.length by omega, List.take_left]
  unfold numW
  rw [if_neg (by simp [hn, hd])]
theorem numM_cases (a : List Nat) (b : Nat) : numM a b = mN ∨ ∃ p r, a.drop b = p ++ 32 :: r ∧ numM a b = mT [.int (NumText.digitsVal p : Nat), .int ((b + p.length + 1 : Nat) : Int)] := by
  unfold numM
  rw [win]
  cases q : first 32 b ((a.drop b).take 12) with
  | none => exact .inl rfl
  | some e =>
    obtain ⟨g1, g2, g3, _⟩ := first_ge q
    have g4 : (a.drop b)[e - b]? = some 32 := by
      rw [List.getElem?_take] at g3
      split at g3
      · exact g3
      · cases g3
    obtain ⟨hlt, hv⟩ := List.getElem?_eq_some_iff.mp g4
    show numW ((a.drop b).take (e - b)) e = mN ∨ _
    by_cases hw : (a.drop b).take (e - b) = [] ∨ ((a.drop b).take (e - b)).all dig = false
    · exact .inl (if_pos hw)
    · refine .inr ⟨(a.drop b).take (e - b), (a.drop b).drop (e - b + 1), ?_, ?_⟩
      · rw [← hv, ← List.drop_eq_getElem_cons hlt, List.take_append_drop]
      · show numW ((a.drop b).take (e - b)) e = _
        unfold numW
        rw [if_neg hw]
        have : ((a.drop b).take (e - b)).length = e - b := by rw [List.length_take]; omega
        rw [this, show b + (e - b) + 1 = e + 1 by omega]
theorem ix_0 (x y : I) : ixM (mT [x, y]) (mI 0) = .ok (.im x) := rfl
theorem ix_1 (x y : I) : ixM (mT [x, y]) (mI 1) = .ok (.im y) := rfl
theorem isN_N : oIsN mN mN = .ok (mB true) := rfl
theorem isN_T (l : List I) : oIsN (mT l) mN = .ok (mB false) := rfl
/-- what frame_at tells when both numbers stand there -/
def frW (a : List Nat) (b e2 n : Nat) : M := if (a.drop b).take (e2 + n + 1 - b) = frm ((a.drop e2).take n) then mT [.str (S ((a.drop e2).take n)), .int ((e2 + n + 1 : Nat) : Int)] else mN
theorem Asc.sub {a b : List Nat} (h : Asc a) (s : ∀ c ∈ b, c ∈ a) : Asc b := fun c hc => h c (s c hc)
theorem frame_both (C : Addr) {a : List Nat} {b e1 e2 n m : Nat} (hl : a.length ≤ 1000) (ha : Asc a) (hb : b ≤ a.length) (h1 : e1 ≤ a.length) (h2 : e2 ≤ a.length) (q1 : numM a b = mT [.int (n : Int), .int (e1 : Int)]) (q2 : numM a e1 = mT [.int (m : Int), .int (e2 : Int)]) : frame_at_f C [mS (S a), mI (b : Nat)] = .ok (frW a b e2 n) := by
  have r1 := number_run C hl hb
  have r2 := number_run C hl h1
  rw [q1] at r1
  rw [q2] at r2
  have c1 : cutM (mS (S a)) (some (e2 : Int)) (some ((e2 : Int) + (n : Int))) = .ok (mS (S ((a.drop e2).take n))) := by
    rw [cutM_S _ _ (by omega), show ((e2 : Int) + (n : Int)) = ((e2 + n : Nat) : Int) by omega, cutA_nn h2, show e2 + n - e2 = n by omega]
  have c2 : cutM (mS (S a)) (some (b : Int)) (some ((e2 : Int) + (n : Int) + 1)) = .ok (mS (S ((a.drop b).take (e2 + n + 1 - b)))) := by
    rw [cutM_S _ _ (by omega), show ((e2 : Int) + (n : Int) + 1) = ((e2 + n + 1 : Nat) : Int) by omega, cutA_nn hb]
  have f1 := framed_ok C (a := (a.drop e2).take n) (by rw [List.length_take, List.length_drop]; omega) (ha.sub fun c hc => List.mem_of_mem_drop (List.mem_of_mem_take hc))
  have t1 := oEq_SS ((a.drop b).take (e2 + n + 1 - b)) (frm ((a.drop e2).take n))
  unfold frame_at_f defP frame_at_b frW
  rw [if_pos (show [mS (S a), mI (b : Nat)].length = 2 from rfl)]
  by_cases hh : (a.drop b).take (e2 + n + 1 - b) = frm ((a.drop e2).take n)
  · rw [decide_eq_true hh] at t1
    rw [if_pos hh]
    simp only [↓seqS_eq, ↓ifS_eq, ↓setS_eq, ↓retS_eq, ↓augItL_eq, ↓plS2_eq, augK1_l, augK2_i, augK3_s, ↓plX_eq, ↓dropX_eq, ↓setX_eq, ↓retX_eq, ↓augS_eq, ↓parS_eq, ↓asgS_eq, ↓rIf_eq, ↓rOr_eq, ↓vAnd_eq, seqK_nx, seqK_rt, seqK_bk, setK_eq, ifK_t, ifK_f, retK_eq, rIfK_t, rIfK_f, rOrK_t, rOrK_f, R.ok_bind, R.no_bind, getV_0, getV_s, List.set_cons_zero, List.set_cons_succ, ixM_lst, atI_0, atI_1, atI_2, atI_3, ofO_some, oEq_ii, oNe_ii, oGt_ii, oGe_ii, oLt_ii, oLe_ii, oAdd_ii, oAddI_ii, oSub_ii, asB_ok, intR_ok, asIm_ok, asI_ok, cutM_ints, setItL_0, setItL_1, setItL_2, setItL_3, subM_nil, updM_nil, env0, List.map_cons, List.map_nil, List.length_cons, List.length_nil, List.cons_append, List.nil_append, decide_true, decide_false, intM_int, mLst_one, Nat.zero_add, Nat.reduceAdd, Nat.reduceSub, List.replicate_succ, List.replicate_zero, if_true, if_false, wipeE_eq, wipeR_nil, wipeR_cons, List.contains_cons, List.contains_nil, Nat.reduceBEq, Bool.or_true, Bool.true_or, Bool.or_false, Bool.false_or, cond_true, cond_false, r1, r2, isN_T, ix_0, ix_1, nextS, c1, c2, f1, t1, mTup2, retF]
    rfl
  · rw [decide_eq_false hh] at t1
    rw [if_neg hh]
    simp only [↓seqS_eq, ↓ifS_eq, ↓setS_eq, ↓retS_eq, ↓augItL_eq, ↓plS2_eq, augK1_l, augK2_i, augK3_s, ↓plX_eq, ↓dropX_eq, ↓setX_eq, ↓retX_eq, ↓augS_eq, ↓parS_eq, ↓asgS_eq, ↓rIf_eq, ↓rOr_eq, ↓vAnd_eq, seqK_nx, seqK_rt, seqK_bk, setK_eq, ifK_t, ifK_f, retK_eq, rIfK_t, rIfK_f, rOrK_t, rOrK_f, R.ok_bind, R.no_bind, getV_0, getV_s, List.set_cons_zero, List.set_cons_succ, ixM_lst, atI_0, atI_1, atI_2, atI_3, ofO_some, oEq_ii, oNe_ii, oGt_ii, oGe_ii, oLt_ii, oLe_ii, oAdd_ii, oAddI_ii, oSub_ii, asB_ok, intR_ok, asIm_ok, asI_ok, cutM_ints, setItL_0, setItL_1, setItL_2, setItL_3, subM_nil, updM_nil, env0, List.map_cons, List.map_nil, List.length_cons, List.length_nil, List.cons_append, List.nil_append, decide_true, decide_false, intM_int, mLst_one, Nat.zero_add, Nat.reduceAdd, Nat.reduceSub, List.replicate_succ, List.replicate_zero, if_true, if_false, wipeE_eq, wipeR_nil, wipeR_cons, List.contains_cons, List.contains_nil, Nat.reduceBEq, Bool.or_true, Bool.true_or, Bool.or_false, Bool.false_or, cond_true, cond_false, r1, r2, isN_T, ix_0, ix_1, nextS, c1, c2, f1, t1, mTup2, retF]
theorem frame_n1 (C : Addr) {a : List Nat} {b : Nat} (hl : a.length ≤ 1000) (hb : b ≤ a.length) (q1 : numM a b = mN) : frame_at_f C [mS (S a), mI (b : Nat)] = .ok mN := by
  have r1 := number_run C hl hb
  rw [q1] at r1
  unfold frame_at_f defP frame_at_b
  rw [if_pos (show [mS (S a), mI (b : Nat)].length = 2 from rfl)]
  simp only [↓seqS_eq, ↓ifS_eq, ↓setS_eq, ↓retS_eq, ↓augItL_eq, ↓plS2_eq, augK1_l, augK2_i, augK3_s, ↓plX_eq, ↓dropX_eq, ↓setX_eq, ↓retX_eq, ↓augS_eq, ↓parS_eq, ↓asgS_eq, ↓rIf_eq, ↓rOr_eq, ↓vAnd_eq, seqK_nx, seqK_rt, seqK_bk, setK_eq, ifK_t, ifK_f, retK_eq, rIfK_t, rIfK_f, rOrK_t, rOrK_f, R.ok_bind, R.no_bind, getV_0, getV_s, List.set_cons_zero, List.set_cons_succ, ixM_lst, atI_0, atI_1, atI_2, atI_3, ofO_some, oEq_ii, oNe_ii, oGt_ii, oGe_ii, oLt_ii, oLe_ii, oAdd_ii, oAddI_ii, oSub_ii, asB_ok, intR_ok, asIm_ok, asI_ok, cutM_ints, setItL_0, setItL_1, setItL_2, setItL_3, subM_nil, updM_nil, env0, List.map_cons, List.map_nil, List.length_cons, List.length_nil, List.cons_append, List.nil_append, decide_true, decide_false, intM_int, mLst_one, Nat.zero_add, Nat.reduceAdd, Nat.reduceSub, List.replicate_succ, List.replicate_zero, if_true, if_false, wipeE_eq, wipeR_nil, wipeR_cons, List.contains_cons, List.contains_nil, Nat.reduceBEq, Bool.or_true, Bool.true_or, Bool.or_false, Bool.false_or, cond_true, cond_false, r1, isN_N, nextS, retF]
theorem frame_n2 (C : Addr) {a : List Nat} {b e1 n : Nat} (hl : a.length ≤ 1000) (hb : b ≤ a.length) (h1 : e1 ≤ a.length) (q1 : numM a b = mT [.int (n : Int), .int (e1 : Int)]) (q2 : numM a e1 = mN) : frame_at_f C [mS (S a), mI (b : Nat)] = .ok mN := by
  have r1 := number_run C hl hb
  have r2 := number_run C hl h1
  rw [q1] at r1
  rw [q2] at r2
  unfold frame_at_f defP frame_at_b
  rw [if_pos (show [mS (S a), mI (b : Nat)].length = 2 from rfl)]
  simp only [↓seqS_eq, ↓ifS_eq, ↓setS_eq, ↓retS_eq, ↓augItL_eq, ↓plS2_eq, augK1_l, augK2_i, augK3_s, ↓plX_eq, ↓dropX_eq, ↓setX_eq, ↓retX_eq, ↓augS_eq, ↓parS_eq, ↓asgS_eq, ↓rIf_eq, ↓rOr_eq, ↓vAnd_eq, seqK_nx, seqK_rt, seqK_bk, setK_eq, ifK_t, ifK_f, retK_eq, rIfK_t, rIfK_f, rOrK_t, rOrK_f, R.ok_bind, R.no_bind, getV_0, getV_s, List.set_cons_zero, List.set_cons_succ, ixM_lst, atI_0, atI_1, atI_2, atI_3, ofO_some, oEq_ii, oNe_ii, oGt_ii, oGe_ii, oLt_ii, oLe_ii, oAdd_ii, oAddI_ii, oSub_ii, asB_ok, intR_ok, asIm_ok, asI_ok, cutM_ints, setItL_0, setItL_1, setItL_2, setItL_3, subM_nil, updM_nil, env0, List.map_cons, List.map_nil, List.length_cons, List.length_nil, List.cons_append, List.nil_append, decide_true, decide_false, intM_int, mLst_one, Nat.zero_add, Nat.reduceAdd, Nat.reduceSub, List.replicate_succ, List.replicate_zero, if_true, if_false, wipeE_eq, wipeR_nil, wipeR_cons, List.contains_cons, List.contains_nil, Nat.reduceBEq, Bool.or_true, Bool.true_or, Bool.or_false, Bool.false_or, cond_true, cond_false, r1, r2, isN_N, isN_T, ix_0, ix_1, nextS, retF]
theorem drop_len {a p r : List Nat} {b : Nat} (h : a.drop b = p ++ 32 :: r) (hb : b ≤ a.length) : b + p.length + 1 ≤ a.length ∧ a.drop (b + p.length + 1) = r := by
  have h1 := congrArg List.length h
  simp only [List.length_drop, List.length_append, List.length_cons] at h1
  refine ⟨by omega, ?_⟩
  have h2 : (a.drop b).drop (p.length + 1) = r := by
    rw [h, List.drop_append, List.drop_eq_nil_of_le (by omega), show p.length + 1 - p.length = 0 + 1 by omega]
    rfl
  rw [List.drop_drop] at h2
  rw [← h2]
  congr 1
theorem frame_no (C : Addr) {a : List Nat} {b : Nat} (hl : a.length ≤ 1000) (ha : Asc a) (hb : b ≤ a.length) (h : ∀ x r, a.drop b ≠ frm x ++ r) : frame_at_f C [mS (S a), mI (b : Nat)] = .ok mN := by
  rcases numM_cases a b with q1 | ⟨p, r, d1, q1⟩
  · exact frame_n1 C hl hb q1
  · obtain ⟨h1, d2⟩ := drop_len d1 hb
    rcases numM_cases a (b + p.length + 1) with q2 | ⟨p2, r2, d3, q2⟩
    · exact frame_n2 C hl hb h1 q1 q2
    · obtain ⟨h2, d4⟩ := drop_len d3 h1
      rw [frame_both C hl ha hb h1 h2 q1 q2]
      unfold frW
      rw [if_neg fun z => h _ ((a.drop b).drop (b + p.length + 1 + p2.length + 1 + NumText.digitsVal p + 1 - b)) (by rw [← z, List.take_append_drop])]
theorem numL_dig (n : Nat) : (TL.numL n).all dig = true := List.all_eq_true.mpr fun c hc => by
  have := TL.numL_digits n c hc
  unfold dig
  rw [Bool.and_eq_true, decide_eq_true_eq, decide_eq_true_eq]
  exact this
theorem frame_yes (C : Addr) {a x r : List Nat} {b : Nat} (hl : a.length ≤ 1000) (ha : Asc a) (hb : b ≤ a.length) (h : a.drop b = frm x ++ r) : frame_at_f C [mS (S a), mI (b : Nat)] = .ok (mT [.str (S x), .int ((b + (frm x).length : Nat) : Int)]) ∧ b + (frm x).length ≤ a.length ∧ a.drop (b + (frm x).length) = r := by
  have hlen := congrArg List.length h
  simp only [List.length_drop, List.length_append] at hlen
  have hfl : (frm x).length = (TL.numL x.length).length + 1 + ((TL.numL (chk x)).length + 1 + (x.length + 1)) := by
    unfold frm
    simp only [List.length_append, List.length_cons, List.length_nil]
    omega
  have n1 := numL_small (n := x.length) (by omega)
  have n2 := numL_small (n := chk x) (by have := chk_lt x; omega)
  have d1 : a.drop b = TL.numL x.length ++ 32 :: (TL.numL (chk x) ++ 32 :: (x ++ 10 :: r)) := by
    rw [h]
    unfold frm
    simp only [List.append_assoc, List.cons_append, List.nil_append]
  obtain ⟨h1, d2⟩ := drop_len d1 hb
  obtain ⟨h2, d3⟩ := drop_len d2 h1
  have q1 := numM_yes d1 (TL.numL_free (by omega)) (TL.numL_ne _) (numL_dig _) (by omega)
  have q2 := numM_yes d2 (TL.numL_free (by omega)) (TL.numL_ne _) (numL_dig _) (by omega)
  rw [TL.numL_val] at q1 q2
  refine ⟨?_, by omega, ?_⟩
  · rw [frame_both C hl ha hb h1 h2 q1 q2]
    unfold frW
    have e1 : (x ++ 10 :: r).take x.length = x := List.take_left
    rw [d3, e1]
    have e2 : b + (TL.numL x.length).length + 1 + (TL.numL (chk x)).length + 1 + x.length + 1 = b + (frm x).length := by omega
    rw [e2, show b + (frm x).length - b = (frm x).length by omega, h, if_pos List.take_left]
  · rw [← List.drop_drop, h, List.drop_left]
end DL.K52
/-! LT6: frames_in. -/
namespace DL.K52
open PySem PySem.Spec PyProof.Rows L2 DL SX
/-- the whole frames with which a text begins, and what is left -/
inductive Frs : List Nat → List (List Nat) → List Nat → Prop where
  | stop {l : List Nat} (h : ∀ x r, l ≠ frm x ++ r) : Frs l [] l
  | step {x r z : List Nat} {xs : List (List Nat)} (h : Frs r xs z) : Frs (frm x ++ r) (x :: xs) z
theorem frm_pos (x : List Nat) : 4 ≤ (frm x).length := by
  have := List.length_pos_iff.mpr (TL.numL_ne x.length)
  have := List.length_pos_iff.mpr (TL.numL_ne (chk x))
  unfold frm
  simp only [List.length_append, List.length_cons, List.length_nil]
  omega
theorem Frs.ex : ∀ (n : Nat) (l : List Nat), l.length ≤ n → ∃ xs z, Frs l xs z
  | n, l, h => by
    by_cases q : ∃ x r, l = frm x ++ r
    · obtain ⟨x, r, rfl⟩ := q
      have := frm_pos x
      rw [List.length_append] at h
      cases n with
      | zero => omega
      | succ n =>
        obtain ⟨xs, z, hx⟩ := Frs.ex n r (by omega)
        exact ⟨_, _, .step hx⟩
    · exact ⟨[], l, .stop fun x r e => q ⟨x, r, e⟩⟩
theorem Frs.len {l z : List Nat} {xs : List (List Nat)} (h : Frs l xs z) : xs.length ≤ l.length ∧ z.length ≤ l.length := by
  induction h with
  | stop _ => simp
  | @step x r z xs _ ih =>
    have := frm_pos x
    simp only [List.length_append, List.length_cons]
    omega
abbrev tx (a : List Nat) : Option M := some (mS (S a))
abbrev txs (xs : List (List Nat)) : List M := xs.map fun x => mS (S x)
theorem while_frames (C : Addr) {c : DL.Env → R Bool} {fb : DL.Env → R Fl} {a : List Nat} (hl : a.length ≤ 1000) (ha : Asc a) (hc : ∀ L b, c [tx a, L, b, some mN] = .ok false) (hc2 : ∀ L b x y, c [tx a, L, b, some (mT [x, y])] = .ok true)
    (hb : ∀ (acc : List M) (b : Option M) (x : List Nat) (e : Nat) (f' : M), frame_at_f C [mS (S a), mI (e : Nat)] = .ok f' → acc.length < sizeLine → fb [tx a, some (.lst acc), b, some (mT [.str (S x), .int (e : Nat)])] = .ok (.nx [tx a, some (.lst (acc ++ [mS (S x)])), some (mI (e : Nat)), some f'])) :
    ∀ {l z : List Nat} {xs : List (List Nat)}, Frs l xs z → ∀ (n b : Nat) (acc : List M) (f : M), l = a.drop b → b ≤ a.length → xs.length < n → acc.length + xs.length ≤ 100000 → frame_at_f C [mS (S a), mI (b : Nat)] = .ok f →
    ∃ b2 : Nat, b2 ≤ a.length ∧ a.drop b2 = z ∧ whileR c fb n [tx a, some (.lst acc), some (mI (b : Nat)), some f] = .ok (.nx [tx a, some (.lst (acc ++ txs xs)), some (mI (b2 : Nat)), some mN]) := by
  intro l z xs h
  induction h with
  | @stop l h =>
    intro n b acc f e hb' hn _ hf
    cases n with
    | zero => omega
    | succ n =>
      have q := frame_no C hl ha hb' (fun x r z => h x r (e.trans z))
      rw [q] at hf
      cases hf
      refine ⟨b, hb', e.symm, ?_⟩
      unfold whileR
      rw [hc]
      simp only [R.ok_bind, txs, List.map_nil, List.append_nil]
      rfl
  | @step x r z xs hx ih =>
    intro n b acc f e hb' hn hacc hf
    cases n with
    | zero => omega
    | succ n =>
      obtain ⟨q1, q2, q3⟩ := frame_yes C hl ha hb' e.symm
      rw [q1] at hf
      cases hf
      simp only [List.length_cons] at hn hacc
      obtain ⟨f', hf'⟩ : ∃ f', frame_at_f C [mS (S a), mI ((b + (frm x).length : Nat) : Int)] = .ok f' := by
        by_cases q : ∃ y s, a.drop (b + (frm x).length) = frm y ++ s
        · obtain ⟨y, s, q⟩ := q
          exact ⟨_, (frame_yes C hl ha q2 q).1⟩
        · exact ⟨_, frame_no C hl ha q2 fun y s z => q ⟨y, s, z⟩⟩
      obtain ⟨b2, g1, g2, g3⟩ := ih n (b + (frm x).length) (acc ++ [mS (S x)]) f' q3.symm q2 (by omega) (by rw [List.length_append, List.length_singleton]; omega) hf'
      refine ⟨b2, g1, g2, ?_⟩
      unfold whileR
      rw [hc2, R.ok_bind, if_pos rfl, hb acc _ x _ f' hf' (Nat.lt_of_lt_of_le (by omega) (sz (Nat.le_refl _)))]
      simp only [R.ok_bind]
      rw [g3]
      simp only [txs, List.map_cons, List.append_assoc, List.cons_append, List.nil_append]
theorem mLst_nil : mLst [] = .ok (.lst []) := rfl
theorem txs_im (xs : List (List Nat)) : txs xs = (xs.map fun x => I.str (S x)).map M.im := by
  rw [List.map_map]; rfl
theorem tuple_txs (xs : List (List Nat)) : tupleM [.lst (txs xs)] = .ok (mT (xs.map fun x => I.str (S x))) := by
  show (match allIm (txs xs) with | some k => R.ok (mT k) | none => .no) = _
  rw [txs_im, allIm_map']
theorem frames_ok (C : Addr) {a z : List Nat} {xs : List (List Nat)} (hl : a.length ≤ 1000) (ha : Asc a) (h : Frs a xs z) : frames_in_f C [mS (S a)] = .ok (mT [.tup (xs.map fun x => I.str (S x)), .int (z.length : Nat)]) := by
  obtain ⟨f, hf⟩ : ∃ f, frame_at_f C [mS (S a), mI ((0 : Nat) : Int)] = .ok f := by
    by_cases q : ∃ y s, a.drop 0 = frm y ++ s
    · obtain ⟨y, s, q⟩ := q
      exact ⟨_, (frame_yes C hl ha (Nat.zero_le _) q).1⟩
    · exact ⟨_, frame_no C hl ha (Nat.zero_le _) fun y s z => q ⟨y, s, z⟩⟩
  have hlen := h.len
  have hf0 : frame_at_f C [mS (S a), mI 0] = .ok f := hf
  have l1 := len_S (a := a) (sz (by omega))
  unfold frames_in_f defP frames_in_b
  rw [if_pos (show [mS (S a)].length = 1 from rfl), seqS_eq, show env0 4 [mS (S a)] = [tx a, none, none, none] from rfl]
  have hpar : ∀ (F : DL.Env → R (List M)) (ρ : DL.Env), F ρ = .ok [.lst [], mI 0, f] → ρ = [tx a, none, none, none] → parS [1, 2, 3] F ρ = .ok (.nx [tx a, some (.lst []), some (mI 0), some f]) := fun F ρ e e2 => by
    subst e2
    unfold parS
    rw [e]
    rfl
  rw [hpar _ _ (by simp only [↓seqS_eq, ↓ifS_eq, ↓setS_eq, ↓retS_eq, ↓augItL_eq, ↓plS2_eq, augK1_l, augK2_i, augK3_s, ↓plX_eq, ↓dropX_eq, ↓setX_eq, ↓retX_eq, ↓augS_eq, ↓parS_eq, ↓asgS_eq, ↓rIf_eq, ↓rOr_eq, ↓vAnd_eq, seqK_nx, seqK_rt, seqK_bk, setK_eq, ifK_t, ifK_f, retK_eq, rIfK_t, rIfK_f, rOrK_t, rOrK_f, R.ok_bind, R.no_bind, getV_0, getV_s, List.set_cons_zero, List.set_cons_succ, ixM_lst, atI_0, atI_1, atI_2, atI_3, ofO_some, oEq_ii, oNe_ii, oGt_ii, oGe_ii, oLt_ii, oLe_ii, oAdd_ii, oAddI_ii, oSub_ii, asB_ok, intR_ok, asIm_ok, asI_ok, cutM_ints, setItL_0, setItL_1, setItL_2, setItL_3, subM_nil, updM_nil, env0, List.map_cons, List.map_nil, List.length_cons, List.length_nil, List.cons_append, List.nil_append, decide_true, decide_false, intM_int, mLst_one, Nat.zero_add, Nat.reduceAdd, Nat.reduceSub, List.replicate_succ, List.replicate_zero, if_true, if_false, wipeE_eq, wipeR_nil, wipeR_cons, List.contains_cons, List.contains_nil, Nat.reduceBEq, Bool.or_true, Bool.true_or, Bool.or_false, Bool.false_or, cond_true, cond_false, mLst_nil, hf0]) rfl, R.ok_bind, seqK_nx, seqS_eq]
  generalize hfb : seqS (dropX _) (seqS (setS 2 _) (setS 3 _)) = fb
  have hb : ∀ (acc : List M) (b : Option M) (x : List Nat) (e : Nat) (f' : M), frame_at_f C [mS (S a), mI (e : Nat)] = .ok f' → acc.length < sizeLine → fb [tx a, some (.lst acc), b, some (mT [.str (S x), .int (e : Nat)])] = .ok (.nx [tx a, some (.lst (acc ++ [mS (S x)])), some (mI (e : Nat)), some f']) := by
    intro acc b x e f' hf' hacc
    have happ : appM (.lst acc) [mS (S x)] = .ok (mN, .lst (acc ++ [mS (S x)])) := if_pos hacc
    subst hfb
    simp only [↓seqS_eq, ↓ifS_eq, ↓setS_eq, ↓retS_eq, ↓augItL_eq, ↓plS2_eq, augK1_l, augK2_i, augK3_s, ↓plX_eq, ↓dropX_eq, ↓setX_eq, ↓retX_eq, ↓augS_eq, ↓parS_eq, ↓asgS_eq, ↓rIf_eq, ↓rOr_eq, ↓vAnd_eq, seqK_nx, seqK_rt, seqK_bk, setK_eq, ifK_t, ifK_f, retK_eq, rIfK_t, rIfK_f, rOrK_t, rOrK_f, R.ok_bind, R.no_bind, getV_0, getV_s, List.set_cons_zero, List.set_cons_succ, ixM_lst, atI_0, atI_1, atI_2, atI_3, ofO_some, oEq_ii, oNe_ii, oGt_ii, oGe_ii, oLt_ii, oLe_ii, oAdd_ii, oAddI_ii, oSub_ii, asB_ok, intR_ok, asIm_ok, asI_ok, cutM_ints, setItL_0, setItL_1, setItL_2, setItL_3, subM_nil, updM_nil, env0, List.map_cons, List.map_nil, List.length_cons, List.length_nil, List.cons_append, List.nil_append, decide_true, decide_false, intM_int, mLst_one, Nat.zero_add, Nat.reduceAdd, Nat.reduceSub, List.replicate_succ, List.replicate_zero, if_true, if_false, wipeE_eq, wipeR_nil, wipeR_cons, List.contains_cons, List.contains_nil, Nat.reduceBEq, Bool.or_true, Bool.true_or, Bool.or_false, Bool.false_or, cond_true, cond_false, ix_0, ix_1, happ, hf']
  obtain ⟨b2, g1, g2, g3⟩ := while_frames C (c := fun ρ => (getV ρ 3 >>= fun x => R.ok mN >>= fun y => oNotN x y >>= asB)) (fb := fb) hl ha (fun L b => rfl) (fun L b x y => rfl) hb h 100000 0 [] f rfl (Nat.zero_le _) (by omega) (by simp; omega) hf
  rw [show (mI 0 : M) = mI ((0 : Nat) : Int) from rfl, g3]
  have hd : z.length = a.length - b2 := by rw [← g2, List.length_drop]
  simp only [↓seqS_eq, ↓ifS_eq, ↓setS_eq, ↓retS_eq, ↓augItL_eq, ↓plS2_eq, augK1_l, augK2_i, augK3_s, ↓plX_eq, ↓dropX_eq, ↓setX_eq, ↓retX_eq, ↓augS_eq, ↓parS_eq, ↓asgS_eq, ↓rIf_eq, ↓rOr_eq, ↓vAnd_eq, seqK_nx, seqK_rt, seqK_bk, setK_eq, ifK_t, ifK_f, retK_eq, rIfK_t, rIfK_f, rOrK_t, rOrK_f, R.ok_bind, R.no_bind, getV_0, getV_s, List.set_cons_zero, List.set_cons_succ, ixM_lst, atI_0, atI_1, atI_2, atI_3, ofO_some, oEq_ii, oNe_ii, oGt_ii, oGe_ii, oLt_ii, oLe_ii, oAdd_ii, oAddI_ii, oSub_ii, asB_ok, intR_ok, asIm_ok, asI_ok, cutM_ints, setItL_0, setItL_1, setItL_2, setItL_3, subM_nil, updM_nil, env0, List.map_cons, List.map_nil, List.length_cons, List.length_nil, List.cons_append, List.nil_append, decide_true, decide_false, intM_int, mLst_one, Nat.zero_add, Nat.reduceAdd, Nat.reduceSub, List.replicate_succ, List.replicate_zero, if_true, if_false, wipeE_eq, wipeR_nil, wipeR_cons, List.contains_cons, List.contains_nil, Nat.reduceBEq, Bool.or_true, Bool.true_or, Bool.or_false, Bool.false_or, cond_true, cond_false, tuple_txs, l1, mTup2, retF]
  rw [show ((a.length : Nat) : Int) - (b2 : Nat) = ((z.length : Nat) : Int) by omega]
end DL.K52
/-! LT7: _law_first_frame. -/
namespace DL.K52
open PySem PySem.Spec PyProof.Rows L2 DL SX
theorem cut32 : ∀ l : List Nat, 32 ∉ l ∨ ∃ p r, l = p ++ 32 :: r ∧ 32 ∉ p
  | [] => .inl (by simp)
  | c :: l => by
    by_cases h : c = 32
    · exact .inr ⟨[], l, by rw [h]; rfl, by simp⟩
    · rcases cut32 l with q | ⟨p, r, rfl, q⟩
      · exact .inl fun z => by
          rcases List.mem_cons.mp z with z | z
          · exact h z.symm
          · exact q z
      · exact .inr ⟨c :: p, r, rfl, fun z => by
          rcases List.mem_cons.mp z with z | z
          · exact h z.symm
          · exact q z⟩
abbrev sp32 (l : List Nat) : List (List Nat) := TL.spl [32] 0 [] l
theorem sp_no {l : List Nat} (h : 32 ∉ l) : sp32 l = [l] := TL.spl_last1 (S := []) (acc := []) h
theorem sp_cut {p r : List Nat} (h : 32 ∉ p) : sp32 (p ++ 32 :: r) = p :: sp32 r := TL.spl_part1 (S := []) (acc := []) (rest := r) h
theorem split_ok {a : List Nat} (h : a.length ≤ 1000) : splitM (mS (S a)) [mS (S [32])] = .ok (.lst (txs (sp32 a))) := by
  have e := split_S (a := a) (b := [32]) (by simp) (by decide)
  show (if ((S [32]).length == 0) = false ∧ (S a).length + 2 ≤ sizeLine then R.ok (M.lst ((Txt.split (S a) (S [32])).map mS)) else .no) = _
  rw [if_pos ⟨by decide, by rw [S_len]; exact sz (by omega)⟩, e, List.map_map]
  rfl
theorem dig_uni : ∀ c, c < 128 → Unicode.isDigit c = dig c := by decide +kernel
theorem isdig_S {p : List Nat} (ha : Asc p) : isdigitM (mS (S p)) [] = .ok (mB (!p.isEmpty && p.all dig)) := by
  show R.ok (mB (Txt.isdigit (S p))) = _
  unfold Txt.isdigit
  rw [S_len, ← Array.all_toList]
  have h1 : (decide (p.length > 0)) = !p.isEmpty := by cases p <;> simp
  have h2 : (S p).cps.toList.all Unicode.isDigit = p.all dig := by
    show p.all Unicode.isDigit = p.all dig
    rw [Bool.eq_iff_iff, List.all_eq_true, List.all_eq_true]
    exact ⟨fun h c hc => by rw [← dig_uni c (ha c hc)]; exact h c hc, fun h c hc => by rw [dig_uni c (ha c hc)]; exact h c hc⟩
  rw [h1, h2]
theorem len_lst (l : List M) : lenM [.lst l] = .ok (mI (l.length : Nat)) := rfl
theorem lf_short (C : Addr) {l : List Nat} (hl : l.length ≤ 1000) (h : (sp32 l).length < 3) : _law_first_frame_f C [mS (S l)] = .ok mN := by
  have h1 := split_ok hl
  have h2 : decide (((txs (sp32 l)).length : Int) < 3) = true := by
    rw [decide_eq_true_eq, List.length_map]
    omega
  unfold _law_first_frame_f defP _law_first_frame_b
  rw [if_pos (show [mS (S l)].length = 1 from rfl)]
  simp only [↓seqS_eq, ↓ifS_eq, ↓setS_eq, ↓retS_eq, ↓augItL_eq, ↓plS2_eq, augK1_l, augK2_i, augK3_s, ↓plX_eq, ↓dropX_eq, ↓setX_eq, ↓retX_eq, ↓augS_eq, ↓parS_eq, ↓asgS_eq, ↓rIf_eq, ↓rOr_eq, ↓vAnd_eq, seqK_nx, seqK_rt, seqK_bk, setK_eq, ifK_t, ifK_f, retK_eq, rIfK_t, rIfK_f, rOrK_t, rOrK_f, R.ok_bind, R.no_bind, getV_0, getV_s, List.set_cons_zero, List.set_cons_succ, ixM_lst, atI_0, atI_1, atI_2, atI_3, ofO_some, oEq_ii, oNe_ii, oGt_ii, oGe_ii, oLt_ii, oLe_ii, oAdd_ii, oAddI_ii, oSub_ii, asB_ok, intR_ok, asIm_ok, asI_ok, cutM_ints, setItL_0, setItL_1, setItL_2, setItL_3, subM_nil, updM_nil, env0, List.map_cons, List.map_nil, List.length_cons, List.length_nil, List.cons_append, List.nil_append, decide_true, decide_false, intM_int, mLst_one, Nat.zero_add, Nat.reduceAdd, Nat.reduceSub, List.replicate_succ, List.replicate_zero, if_true, if_false, wipeE_eq, wipeR_nil, wipeR_cons, List.contains_cons, List.contains_nil, Nat.reduceBEq, Bool.or_true, Bool.true_or, Bool.or_false, Bool.false_or, cond_true, cond_false, blank_S, h1, len_lst, h2, nextS, retF]
theorem dv_fold : ∀ (l : List Nat) (acc : Nat), l.all dig = true → l.foldl (fun acc c => acc * 10 + (c - 48)) acc < (acc + 1) * 10 ^ l.length
  | [], acc, _ => by simp
  | c :: l, acc, h => by
    rw [List.all_cons, Bool.and_eq_true] at h
    have hc := h.1
    unfold dig at hc
    rw [Bool.and_eq_true, decide_eq_true_eq, decide_eq_true_eq] at hc
    have := dv_fold l (acc * 10 + (c - 48)) h.2
    refine Nat.lt_of_lt_of_le this ?_
    rw [List.length_cons, Nat.pow_succ', ← Nat.mul_assoc]
    exact Nat.mul_le_mul_right _ (by omega)
theorem dv_lt {p : List Nat} (h : p.all dig = true) (hl : p.length ≤ 6) : NumText.digitsVal p < 1000000 := by
  have := dv_fold p 0 h
  have h2 : 10 ^ p.length ≤ 10 ^ 6 := Nat.pow_le_pow_right (by decide) hl
  unfold NumText.digitsVal
  omega
/-- the three looks at the first word -/
def okW (p : List Nat) : Prop := p ≠ [] ∧ p.all dig = true ∧ p.length ≤ 6 ∧ TL.numL (NumText.digitsVal p) = p
def lfW (l p2 r2 : List Nat) (p : List Nat) : M := if l.take (frm (r2.take (NumText.digitsVal p))).length = frm (r2.take (NumText.digitsVal p)) ∧ (r2.take (NumText.digitsVal p)).length = NumText.digitsVal p then mT [.str (S (r2.take (NumText.digitsVal p))), .str (S (l.drop (frm (r2.take (NumText.digitsVal p))).length))] else mN
theorem lf_bad (C : Addr) {l p p2 : List Nat} {w : List (List Nat)} (hl : l.length ≤ 1000) (ha : Asc p) (h : sp32 l = p :: p2 :: w) (hw : w ≠ []) (hp : p.length ≤ 1000) (hk : ¬ okW p) : _law_first_frame_f C [mS (S l)] = .ok mN := by
  have h1 := split_ok hl
  rw [h] at h1
  have hwl := List.length_pos_iff.mpr hw
  have h2 : decide ((((txs (p :: p2 :: w)).length : Nat) : Int) < 3) = false := by
    rw [decide_eq_false_iff_not, List.length_map, List.length_cons, List.length_cons]
    omega
  have h3 : atI (txs (p :: p2 :: w)) 0 = some (mS (S p)) := atI_0 _ _
  generalize txs (p :: p2 :: w) = L at *
  have h4 := isdig_S ha
  have h5 := len_S (a := p) (sz (by omega))
  unfold _law_first_frame_f defP _law_first_frame_b
  rw [if_pos (show [mS (S l)].length = 1 from rfl)]
  cases hd : (!p.isEmpty && p.all dig) with
  | false =>
    rw [hd] at h4
    simp only [↓seqS_eq, ↓ifS_eq, ↓setS_eq, ↓retS_eq, ↓augItL_eq, ↓plS2_eq, augK1_l, augK2_i, augK3_s, ↓plX_eq, ↓dropX_eq, ↓setX_eq, ↓retX_eq, ↓augS_eq, ↓parS_eq, ↓asgS_eq, ↓rIf_eq, ↓rOr_eq, ↓vAnd_eq, seqK_nx, seqK_rt, seqK_bk, setK_eq, ifK_t, ifK_f, retK_eq, rIfK_t, rIfK_f, rOrK_t, rOrK_f, R.ok_bind, R.no_bind, getV_0, getV_s, List.set_cons_zero, List.set_cons_succ, ixM_lst, atI_0, atI_1, atI_2, atI_3, ofO_some, oEq_ii, oNe_ii, oGt_ii, oGe_ii, oLt_ii, oLe_ii, oAdd_ii, oAddI_ii, oSub_ii, asB_ok, intR_ok, asIm_ok, asI_ok, cutM_ints, setItL_0, setItL_1, setItL_2, setItL_3, subM_nil, updM_nil, env0, List.map_cons, List.map_nil, List.length_cons, List.length_nil, List.cons_append, List.nil_append, decide_true, decide_false, intM_int, mLst_one, Nat.zero_add, Nat.reduceAdd, Nat.reduceSub, List.replicate_succ, List.replicate_zero, if_true, if_false, wipeE_eq, wipeR_nil, wipeR_cons, List.contains_cons, List.contains_nil, Nat.reduceBEq, Bool.or_true, Bool.true_or, Bool.or_false, Bool.false_or, cond_true, cond_false, blank_S, h1, len_lst, h2, h3, h4, Bool.not_false, nextS, retF]
  | true =>
    rw [hd] at h4
    rw [Bool.and_eq_true, Bool.not_eq_true'] at hd
    have hne : p ≠ [] := fun z => by rw [z] at hd; simp at hd
    by_cases h6 : p.length ≤ 6
    · have h7 : decide ((6 : Int) < (p.length : Nat)) = false := by rw [decide_eq_false_iff_not]; omega
      have h8 := int_dig hd.2 hne (by omega)
      have h9 := str_num (NumText.digitsVal p) (Nat.lt_of_lt_of_le (dv_lt hd.2 h6) (by decide))
      have h10 := oNe_SS (TL.numL (NumText.digitsVal p)) p
      rw [decide_eq_false (fun z => hk ⟨hne, hd.2, h6, z⟩)] at h10
      simp only [↓seqS_eq, ↓ifS_eq, ↓setS_eq, ↓retS_eq, ↓augItL_eq, ↓plS2_eq, augK1_l, augK2_i, augK3_s, ↓plX_eq, ↓dropX_eq, ↓setX_eq, ↓retX_eq, ↓augS_eq, ↓parS_eq, ↓asgS_eq, ↓rIf_eq, ↓rOr_eq, ↓vAnd_eq, seqK_nx, seqK_rt, seqK_bk, setK_eq, ifK_t, ifK_f, retK_eq, rIfK_t, rIfK_f, rOrK_t, rOrK_f, R.ok_bind, R.no_bind, getV_0, getV_s, List.set_cons_zero, List.set_cons_succ, ixM_lst, atI_0, atI_1, atI_2, atI_3, ofO_some, oEq_ii, oNe_ii, oGt_ii, oGe_ii, oLt_ii, oLe_ii, oAdd_ii, oAddI_ii, oSub_ii, asB_ok, intR_ok, asIm_ok, asI_ok, cutM_ints, setItL_0, setItL_1, setItL_2, setItL_3, subM_nil, updM_nil, env0, List.map_cons, List.map_nil, List.length_cons, List.length_nil, List.cons_append, List.nil_append, decide_true, decide_false, intM_int, mLst_one, Nat.zero_add, Nat.reduceAdd, Nat.reduceSub, List.replicate_succ, List.replicate_zero, if_true, if_false, wipeE_eq, wipeR_nil, wipeR_cons, List.contains_cons, List.contains_nil, Nat.reduceBEq, Bool.or_true, Bool.true_or, Bool.or_false, Bool.false_or, cond_true, cond_false, blank_S, h1, len_lst, h2, h3, h4, h5, h7, h8, h9, h10, Bool.not_false, Bool.not_true, nextS, retF]
    · have h7 : decide ((6 : Int) < (p.length : Nat)) = true := by rw [decide_eq_true_eq]; omega
      simp only [↓seqS_eq, ↓ifS_eq, ↓setS_eq, ↓retS_eq, ↓augItL_eq, ↓plS2_eq, augK1_l, augK2_i, augK3_s, ↓plX_eq, ↓dropX_eq, ↓setX_eq, ↓retX_eq, ↓augS_eq, ↓parS_eq, ↓asgS_eq, ↓rIf_eq, ↓rOr_eq, ↓vAnd_eq, seqK_nx, seqK_rt, seqK_bk, setK_eq, ifK_t, ifK_f, retK_eq, rIfK_t, rIfK_f, rOrK_t, rOrK_f, R.ok_bind, R.no_bind, getV_0, getV_s, List.set_cons_zero, List.set_cons_succ, ixM_lst, atI_0, atI_1, atI_2, atI_3, ofO_some, oEq_ii, oNe_ii, oGt_ii, oGe_ii, oLt_ii, oLe_ii, oAdd_ii, oAddI_ii, oSub_ii, asB_ok, intR_ok, asIm_ok, asI_ok, cutM_ints, setItL_0, setItL_1, setItL_2, setItL_3, subM_nil, updM_nil, env0, List.map_cons, List.map_nil, List.length_cons, List.length_nil, List.cons_append, List.nil_append, decide_true, decide_false, intM_int, mLst_one, Nat.zero_add, Nat.reduceAdd, Nat.reduceSub, List.replicate_succ, List.replicate_zero, if_true, if_false, wipeE_eq, wipeR_nil, wipeR_cons, List.contains_cons, List.contains_nil, Nat.reduceBEq, Bool.or_true, Bool.true_or, Bool.or_false, Bool.false_or, cond_true, cond_false, blank_S, h1, len_lst, h2, h3, h4, h5, h7, Bool.not_false, Bool.not_true, nextS, retF]
theorem lf_good (C : Addr) {l p p2 r2 : List Nat} {w : List (List Nat)} (hl : l.length ≤ 1000) (ha : Asc l) (hl2 : l = p ++ 32 :: (p2 ++ 32 :: r2)) (h : sp32 l = p :: p2 :: w) (hw : w ≠ []) (hk : okW p) : _law_first_frame_f C [mS (S l)] = .ok (lfW l p2 r2 p) := by
  obtain ⟨k1, k2, k3, k4⟩ := hk
  have hlen := congrArg List.length hl2
  simp only [List.length_append, List.length_cons] at hlen
  have hp : Asc p := ha.sub fun c hc => by rw [hl2]; exact List.mem_append_left _ hc
  have h1 := split_ok hl
  rw [h] at h1
  have hwl := List.length_pos_iff.mpr hw
  have h2 : decide ((((txs (p :: p2 :: w)).length : Nat) : Int) < 3) = false := by
    rw [decide_eq_false_iff_not, List.length_map, List.length_cons, List.length_cons]
    omega
  have h3 : atI (txs (p :: p2 :: w)) 0 = some (mS (S p)) := atI_0 _ _
  have h3b : atI (txs (p :: p2 :: w)) 1 = some (mS (S p2)) := atI_1 _ _ _
  generalize txs (p :: p2 :: w) = L at *
  have h4 := isdig_S hp
  rw [show (!p.isEmpty && p.all dig) = true by rw [k2]; cases p <;> simp at k1 ⊢] at h4
  have h5 := len_S (a := p) (sz (by omega))
  have h5b := len_S (a := p2) (sz (by omega))
  have h7 : decide ((6 : Int) < (p.length : Nat)) = false := by rw [decide_eq_false_iff_not]; omega
  have h8 := int_dig k2 k1 (by omega)
  have hn := dv_lt k2 k3
  have h9 := str_num (NumText.digitsVal p) (Nat.lt_of_lt_of_le hn (by decide))
  have h10 := oNe_SS (TL.numL (NumText.digitsVal p)) p
  rw [decide_eq_true k4] at h10
  generalize hN : NumText.digitsVal p = n at *
  have hd : l.drop (p.length + p2.length + 2) = r2 := by
    rw [hl2, show p ++ 32 :: (p2 ++ 32 :: r2) = (p ++ 32 :: (p2 ++ [32])) ++ r2 by simp, List.drop_append_of_le_length (by simp; omega), List.drop_eq_nil_of_le (by simp; omega), List.nil_append]
  have c1 : cutM (mS (S l)) (some ((p.length : Int) + (p2.length : Int) + 2)) (some ((p.length : Int) + (p2.length : Int) + 2 + (n : Int))) = .ok (mS (S (r2.take n))) := by
    rw [cutM_S _ _ (by omega), show ((p.length : Int) + (p2.length : Int) + 2) = ((p.length + p2.length + 2 : Nat) : Int) by omega, show (((p.length + p2.length + 2 : Nat) : Int) + (n : Int)) = ((p.length + p2.length + 2 + n : Nat) : Int) by omega, cutA_nn (by omega), hd, show p.length + p2.length + 2 + n - (p.length + p2.length + 2) = n by omega]
  have hxl : (r2.take n).length ≤ 1000 := by rw [List.length_take]; omega
  have hxa : Asc (r2.take n) := ha.sub fun c hc => by
    rw [hl2]
    have := List.mem_of_mem_take hc
    simp [this]
  have f1 := law_framed C hxl hxa
  unfold lfW
  rw [hN]
  generalize hX : r2.take n = x at *
  have fl := frm_len hxl
  have l2 := len_S (a := frm x) (sz (by omega))
  have l3 := len_S (a := x) (sz (by omega))
  have c2 : cutM (mS (S l)) none (some ((frm x).length : Int)) = .ok (mS (S (l.take (frm x).length))) := by rw [cutM_S _ _ (by omega), cutA_t]
  have c3 : cutM (mS (S l)) (some ((frm x).length : Int)) none = .ok (mS (S (l.drop (frm x).length))) := by rw [cutM_S _ _ (by omega), cutA_n]
  have t1 := oEq_SS (l.take (frm x).length) (frm x)
  have t2 : oEq (mI (x.length : Nat)) (mI (n : Nat)) = .ok (mB (decide ((x.length : Int) = (n : Int)))) := oEq_ii _ _
  unfold _law_first_frame_f defP _law_first_frame_b
  rw [if_pos (show [mS (S l)].length = 1 from rfl)]
  by_cases q1 : l.take (frm x).length = frm x
  · rw [decide_eq_true q1] at t1
    by_cases q2 : x.length = n
    · rw [decide_eq_true (by omega)] at t2
      rw [if_pos ⟨q1, q2⟩]
      simp only [↓seqS_eq, ↓ifS_eq, ↓setS_eq, ↓retS_eq, ↓augItL_eq, ↓plS2_eq, augK1_l, augK2_i, augK3_s, ↓plX_eq, ↓dropX_eq, ↓setX_eq, ↓retX_eq, ↓augS_eq, ↓parS_eq, ↓asgS_eq, ↓rIf_eq, ↓rOr_eq, ↓vAnd_eq, seqK_nx, seqK_rt, seqK_bk, setK_eq, ifK_t, ifK_f, retK_eq, rIfK_t, rIfK_f, rOrK_t, rOrK_f, R.ok_bind, R.no_bind, getV_0, getV_s, List.set_cons_zero, List.set_cons_succ, ixM_lst, atI_0, atI_1, atI_2, atI_3, ofO_some, oEq_ii, oNe_ii, oGt_ii, oGe_ii, oLt_ii, oLe_ii, oAdd_ii, oAddI_ii, oSub_ii, asB_ok, intR_ok, asIm_ok, asI_ok, cutM_ints, setItL_0, setItL_1, setItL_2, setItL_3, subM_nil, updM_nil, env0, List.map_cons, List.map_nil, List.length_cons, List.length_nil, List.cons_append, List.nil_append, decide_true, decide_false, intM_int, mLst_one, Nat.zero_add, Nat.reduceAdd, Nat.reduceSub, List.replicate_succ, List.replicate_zero, if_true, if_false, wipeE_eq, wipeR_nil, wipeR_cons, List.contains_cons, List.contains_nil, Nat.reduceBEq, Bool.or_true, Bool.true_or, Bool.or_false, Bool.false_or, cond_true, cond_false, blank_S, h1, len_lst, h2, h3, h3b, h4, h5, h5b, h7, h8, h9, h10, c1, f1, l2, c2, c3, t1, l3, rAnd, q2, Bool.not_false, Bool.not_true, nextS, mTup2, retF]
    · rw [decide_eq_false (by omega)] at t2
      rw [if_neg fun z => q2 z.2]
      have q3 : ((x.length : Int) = (n : Int)) = False := by simp; omega
      simp only [↓seqS_eq, ↓ifS_eq, ↓setS_eq, ↓retS_eq, ↓augItL_eq, ↓plS2_eq, augK1_l, augK2_i, augK3_s, ↓plX_eq, ↓dropX_eq, ↓setX_eq, ↓retX_eq, ↓augS_eq, ↓parS_eq, ↓asgS_eq, ↓rIf_eq, ↓rOr_eq, ↓vAnd_eq, seqK_nx, seqK_rt, seqK_bk, setK_eq, ifK_t, ifK_f, retK_eq, rIfK_t, rIfK_f, rOrK_t, rOrK_f, R.ok_bind, R.no_bind, getV_0, getV_s, List.set_cons_zero, List.set_cons_succ, ixM_lst, atI_0, atI_1, atI_2, atI_3, ofO_some, oEq_ii, oNe_ii, oGt_ii, oGe_ii, oLt_ii, oLe_ii, oAdd_ii, oAddI_ii, oSub_ii, asB_ok, intR_ok, asIm_ok, asI_ok, cutM_ints, setItL_0, setItL_1, setItL_2, setItL_3, subM_nil, updM_nil, env0, List.map_cons, List.map_nil, List.length_cons, List.length_nil, List.cons_append, List.nil_append, decide_true, decide_false, intM_int, mLst_one, Nat.zero_add, Nat.reduceAdd, Nat.reduceSub, List.replicate_succ, List.replicate_zero, if_true, if_false, wipeE_eq, wipeR_nil, wipeR_cons, List.contains_cons, List.contains_nil, Nat.reduceBEq, Bool.or_true, Bool.true_or, Bool.or_false, Bool.false_or, cond_true, cond_false, blank_S, h1, len_lst, h2, h3, h3b, h4, h5, h5b, h7, h8, h9, h10, c1, f1, l2, c2, c3, t1, l3, rAnd, q3, Bool.not_false, Bool.not_true, nextS, mTup2, retF]
  · rw [decide_eq_false q1] at t1
    rw [if_neg fun z => q1 z.1]
    simp only [↓seqS_eq, ↓ifS_eq, ↓setS_eq, ↓retS_eq, ↓augItL_eq, ↓plS2_eq, augK1_l, augK2_i, augK3_s, ↓plX_eq, ↓dropX_eq, ↓setX_eq, ↓retX_eq, ↓augS_eq, ↓parS_eq, ↓asgS_eq, ↓rIf_eq, ↓rOr_eq, ↓vAnd_eq, seqK_nx, seqK_rt, seqK_bk, setK_eq, ifK_t, ifK_f, retK_eq, rIfK_t, rIfK_f, rOrK_t, rOrK_f, R.ok_bind, R.no_bind, getV_0, getV_s, List.set_cons_zero, List.set_cons_succ, ixM_lst, atI_0, atI_1, atI_2, atI_3, ofO_some, oEq_ii, oNe_ii, oGt_ii, oGe_ii, oLt_ii, oLe_ii, oAdd_ii, oAddI_ii, oSub_ii, asB_ok, intR_ok, asIm_ok, asI_ok, cutM_ints, setItL_0, setItL_1, setItL_2, setItL_3, subM_nil, updM_nil, env0, List.map_cons, List.map_nil, List.length_cons, List.length_nil, List.cons_append, List.nil_append, decide_true, decide_false, intM_int, mLst_one, Nat.zero_add, Nat.reduceAdd, Nat.reduceSub, List.replicate_succ, List.replicate_zero, if_true, if_false, wipeE_eq, wipeR_nil, wipeR_cons, List.contains_cons, List.contains_nil, Nat.reduceBEq, Bool.or_true, Bool.true_or, Bool.or_false, Bool.false_or, cond_true, cond_false, blank_S, h1, len_lst, h2, h3, h3b, h4, h5, h5b, h7, h8, h9, h10, c1, f1, l2, c2, c3, t1, l3, rAnd, Bool.false_eq_true, Bool.not_false, Bool.not_true, nextS, mTup2, retF]
end DL.K52
/-! LT8: _law_first_frame, _law_frames. -/
namespace DL.K52
open PySem PySem.Spec PyProof.Rows L2 DL SX
theorem sp_ne (l : List Nat) : sp32 l ≠ [] := by
  rcases cut32 l with h | ⟨p, r, rfl, h⟩
  · rw [sp_no h]; simp
  · rw [sp_cut h]; simp
theorem lf_yes (C : Addr) {l x r : List Nat} (hl : l.length ≤ 1000) (ha : Asc l) (h : l = frm x ++ r) : _law_first_frame_f C [mS (S l)] = .ok (mT [.str (S x), .str (S r)]) := by
  have hlen := congrArg List.length h
  have hfl : (frm x).length = (TL.numL x.length).length + 1 + ((TL.numL (chk x)).length + 1 + (x.length + 1)) := by
    unfold frm
    simp only [List.length_append, List.length_cons, List.length_nil]
    omega
  rw [List.length_append] at hlen
  have d1 : l = TL.numL x.length ++ 32 :: (TL.numL (chk x) ++ 32 :: (x ++ 10 :: r)) := by
    rw [h]
    unfold frm
    simp only [List.append_assoc, List.cons_append, List.nil_append]
  have s1 : sp32 l = TL.numL x.length :: TL.numL (chk x) :: sp32 (x ++ 10 :: r) := by
    rw [d1, sp_cut (TL.numL_free (by omega)), sp_cut (TL.numL_free (by omega))]
  have v1 := TL.numL_val x.length
  have n1 : (TL.numL x.length).length ≤ 6 := TL.numL_len (by decide) (by omega)
  rw [lf_good C hl ha d1 s1 (sp_ne _) ⟨TL.numL_ne _, numL_dig _, n1, by rw [v1]⟩]
  unfold lfW
  rw [v1]
  have e1 : (x ++ 10 :: r).take x.length = x := List.take_left
  rw [e1, if_pos ⟨by rw [h]; exact List.take_left, rfl⟩, h, List.drop_left]
theorem lf_no (C : Addr) {l : List Nat} (hl : l.length ≤ 1000) (ha : Asc l) (h : ∀ x r, l ≠ frm x ++ r) : _law_first_frame_f C [mS (S l)] = .ok mN := by
  rcases cut32 l with q | ⟨p, s, e, q⟩
  · exact lf_short C hl (by rw [sp_no q]; simp)
  · rcases cut32 s with q2 | ⟨p2, r2, e2, q2⟩
    · exact lf_short C hl (by rw [e, sp_cut q, sp_no q2]; simp)
    · have s1 : sp32 l = p :: p2 :: sp32 r2 := by rw [e, sp_cut q, e2, sp_cut q2]
      have hlen := congrArg List.length e
      rw [List.length_append] at hlen
      by_cases hk : okW p
      · rw [lf_good C hl ha (by rw [e, e2]) s1 (sp_ne _) hk]
        unfold lfW
        rw [if_neg fun z => h _ (l.drop (frm (r2.take (NumText.digitsVal p))).length) (by
          have := List.take_append_drop (frm (r2.take (NumText.digitsVal p))).length l
          rw [z.1] at this
          exact this.symm)]
      · exact lf_bad C hl (ha.sub fun c hc => by rw [e]; exact List.mem_append_left _ hc) s1 (sp_ne _) (by omega) hk
theorem isN_I (x : Str) : oIsN (mS x) mN = .ok (mB false) := rfl
/-- a for loop over rows of things that are not looked at, with a way out inside -/
theorem law_loop (C : Addr) {fb : DL.Env → R Fl} {a : List Nat}
    (hn : ∀ (t : Option M) (acc xs : List (List Nat)) (l : List Nat) (f : Option M), l.length ≤ 1000 → _law_first_frame_f C [mS (S l)] = .ok mN → fb [tx a, t, some (.lst (txs acc)), tx l, f] = .ok (.rt (mT [.tup (acc.map fun x => I.str (S x)), .int (l.length : Nat)]) [tx a, t, some (.lst (txs acc)), tx l, some mN]))
    (hy : ∀ (t : Option M) (acc : List (List Nat)) (l x r : List Nat) (f : Option M), acc.length < 100000 → _law_first_frame_f C [mS (S l)] = .ok (mT [.str (S x), .str (S r)]) → fb [tx a, t, some (.lst (txs acc)), tx l, f] = .ok (.nx [tx a, t, some (.lst (txs (acc ++ [x]))), tx r, some (mT [.str (S x), .str (S r)])])) :
    ∀ {l z : List Nat} {xs : List (List Nat)}, Frs l xs z → l.length ≤ 1000 → Asc l → ∀ (ms : List M) (t : Option M) (acc : List (List Nat)) (f : Option M), xs.length < ms.length → acc.length + xs.length ≤ 100000 →
    ∃ ρ, forR (gSet 1) fb ms [tx a, t, some (.lst (txs acc)), tx l, f] = .ok (.rt (mT [.tup ((acc ++ xs).map fun x => I.str (S x)), .int (z.length : Nat)]) ρ) := by
  intro l z xs h
  induction h with
  | @stop l h =>
    intro hl ha ms t acc f hm _
    cases ms with
    | nil => simp at hm
    | cons m ms =>
      have q := lf_no C hl ha h
      have b := hn (some m) acc [] l f hl q
      refine ⟨[tx a, some m, some (.lst (txs acc)), tx l, some mN], ?_⟩
      unfold forR
      show (R.ok _ >>= _) = _
      rw [R.ok_bind]
      show (fb [tx a, some m, some (.lst (txs acc)), tx l, f] >>= _) = _
      rw [b, List.append_nil]
      rfl
  | @step x r z xs hx ih =>
    intro hl ha ms t acc f hm hacc
    cases ms with
    | nil => simp at hm
    | cons m ms =>
      have q := lf_yes C hl ha rfl
      simp only [List.length_cons] at hm hacc
      have b := hy (some m) acc _ x r f (by omega) q
      obtain ⟨ρ, g⟩ := ih (by rw [List.length_append] at hl; omega) (ha.sub fun c hc => List.mem_append_right _ hc) ms (some m) (acc ++ [x]) (some (mT [.str (S x), .str (S r)])) (by omega) (by rw [List.length_append, List.length_singleton]; omega)
      refine ⟨ρ, ?_⟩
      unfold forR
      show (R.ok _ >>= _) = _
      rw [R.ok_bind]
      show (fb [tx a, some m, some (.lst (txs acc)), tx (frm x ++ r), f] >>= _) = _
      rw [b]
      show forR (gSet 1) fb ms _ = _
      rw [g, List.append_assoc]
      rfl
theorem rng_ok {n : Nat} (h : n ≤ 100000) : rng1 [mI (n : Int)] = .ok (rngM 0 (n : Int)) := by
  show (if rngFit 0 (n : Int) then R.ok (rngM 0 (n : Int)) else .no) = _
  rw [if_pos]
  unfold rngFit
  simp only [Bool.and_eq_true, decide_eq_true_eq]
  omega
theorem rng_len (n : Nat) : (rngM 0 (n : Int)).length = n := by
  rw [rngM_length]
  omega
theorem wipeO_rt (W : List Nat) (v : M) (ρ : DL.Env) : wipeO W (.rt v ρ) = .rt v (wipeE W ρ) := rfl
theorem seqK_wrt (g : DL.Env → R Fl) (W : List Nat) (v : M) (ρ : DL.Env) : seqK g (wipeO W (.rt v ρ)) = .ok (wipeO W (.rt v ρ)) := rfl
theorem retF_wrt (W : List Nat) (v : M) (ρ : DL.Env) : retF (.ok (wipeO W (.rt v ρ))) = .ok v := rfl
theorem forS_rt {W : List Nat} {f : DL.Env → R (List M × DL.Env)} {g : M → DL.Env → R DL.Env} {fb : DL.Env → R Fl} {ρ ρ1 ρ2 : DL.Env} {ms : List M} {v : M} (h1 : f ρ = .ok (ms, ρ1)) (h2 : forR g fb ms ρ1 = .ok (.rt v ρ2)) : forS W f g fb ρ = .ok (wipeO W (.rt v ρ2)) := by
  unfold forS
  rw [h1, R.ok_bind, h2, R.ok_bind]
theorem pure_run {α : Type} {F : DL.Env → R α} {ρ : DL.Env} {a : α} (h : F ρ = .ok a) : pureX F ρ = .ok (a, ρ) := by
  unfold pureX
  rw [h]
  rfl
theorem rng_run {F : R (List M)} {n : Nat} (h : F = .ok [mI (n : Int)]) (hn : n ≤ 100000) : (F >>= rng1) = .ok (rngM 0 (n : Int)) := by
  rw [h, R.ok_bind]
  exact rng_ok hn
theorem law_frames_ok (C : Addr) {a z : List Nat} {xs : List (List Nat)} (hl : a.length ≤ 1000) (ha : Asc a) (h : Frs a xs z) : _law_frames_f C [mS (S a)] = .ok (mT [.tup (xs.map fun x => I.str (S x)), .int (z.length : Nat)]) := by
  have hlen := h.len
  have l1 := len_S (a := a) (sz (by omega))
  have hrl := rng_len (a.length + 1)
  unfold _law_frames_f defP _law_frames_b
  rw [if_pos (show [mS (S a)].length = 1 from rfl), seqS_eq, show env0 5 [mS (S a)] = [tx a, none, none, none, none] from rfl]
  have hpar : ∀ (F : DL.Env → R (List M)) (ρ : DL.Env), F ρ = .ok [.lst [], mS (S a)] → ρ = [tx a, none, none, none, none] → parS [2, 3] F ρ = .ok (.nx [tx a, none, some (.lst []), tx a, none]) := fun F ρ e e2 => by
    subst e2
    unfold parS
    rw [e]
    rfl
  rw [hpar _ _ (by simp only [↓seqS_eq, ↓ifS_eq, ↓setS_eq, ↓retS_eq, ↓augItL_eq, ↓plS2_eq, augK1_l, augK2_i, augK3_s, ↓plX_eq, ↓dropX_eq, ↓setX_eq, ↓retX_eq, ↓augS_eq, ↓parS_eq, ↓asgS_eq, ↓rIf_eq, ↓rOr_eq, ↓vAnd_eq, seqK_nx, seqK_rt, seqK_bk, setK_eq, ifK_t, ifK_f, retK_eq, rIfK_t, rIfK_f, rOrK_t, rOrK_f, R.ok_bind, R.no_bind, getV_0, getV_s, List.set_cons_zero, List.set_cons_succ, ixM_lst, atI_0, atI_1, atI_2, atI_3, ofO_some, oEq_ii, oNe_ii, oGt_ii, oGe_ii, oLt_ii, oLe_ii, oAdd_ii, oAddI_ii, oSub_ii, asB_ok, intR_ok, asIm_ok, asI_ok, cutM_ints, setItL_0, setItL_1, setItL_2, setItL_3, subM_nil, updM_nil, env0, List.map_cons, List.map_nil, List.length_cons, List.length_nil, List.cons_append, List.nil_append, decide_true, decide_false, intM_int, mLst_one, Nat.zero_add, Nat.reduceAdd, Nat.reduceSub, List.replicate_succ, List.replicate_zero, if_true, if_false, wipeE_eq, wipeR_nil, wipeR_cons, List.contains_cons, List.contains_nil, Nat.reduceBEq, Bool.or_true, Bool.true_or, Bool.or_false, Bool.false_or, cond_true, cond_false, mLst_nil]) rfl, R.ok_bind, seqK_nx, seqS_eq]
  generalize hfb : seqS (setS 4 _) (seqS (ifS _ _ _) (seqS _ _)) = fb
  have hn : ∀ (t : Option M) (acc xs : List (List Nat)) (l : List Nat) (f : Option M), l.length ≤ 1000 → _law_first_frame_f C [mS (S l)] = .ok mN → fb [tx a, t, some (.lst (txs acc)), tx l, f] = .ok (.rt (mT [.tup (acc.map fun x => I.str (S x)), .int (l.length : Nat)]) [tx a, t, some (.lst (txs acc)), tx l, some mN]) := by
    intro t acc xs l f hl hf
    have l2 := len_S (a := l) (sz (by omega))
    subst hfb
    simp only [↓seqS_eq, ↓ifS_eq, ↓setS_eq, ↓retS_eq, ↓augItL_eq, ↓plS2_eq, augK1_l, augK2_i, augK3_s, ↓plX_eq, ↓dropX_eq, ↓setX_eq, ↓retX_eq, ↓augS_eq, ↓parS_eq, ↓asgS_eq, ↓rIf_eq, ↓rOr_eq, ↓vAnd_eq, seqK_nx, seqK_rt, seqK_bk, setK_eq, ifK_t, ifK_f, retK_eq, rIfK_t, rIfK_f, rOrK_t, rOrK_f, R.ok_bind, R.no_bind, getV_0, getV_s, List.set_cons_zero, List.set_cons_succ, ixM_lst, atI_0, atI_1, atI_2, atI_3, ofO_some, oEq_ii, oNe_ii, oGt_ii, oGe_ii, oLt_ii, oLe_ii, oAdd_ii, oAddI_ii, oSub_ii, asB_ok, intR_ok, asIm_ok, asI_ok, cutM_ints, setItL_0, setItL_1, setItL_2, setItL_3, subM_nil, updM_nil, env0, List.map_cons, List.map_nil, List.length_cons, List.length_nil, List.cons_append, List.nil_append, decide_true, decide_false, intM_int, mLst_one, Nat.zero_add, Nat.reduceAdd, Nat.reduceSub, List.replicate_succ, List.replicate_zero, if_true, if_false, wipeE_eq, wipeR_nil, wipeR_cons, List.contains_cons, List.contains_nil, Nat.reduceBEq, Bool.or_true, Bool.true_or, Bool.or_false, Bool.false_or, cond_true, cond_false, hf, isN_N, tuple_txs, l2, mTup2]
  have hy : ∀ (t : Option M) (acc : List (List Nat)) (l x r : List Nat) (f : Option M), acc.length < 100000 → _law_first_frame_f C [mS (S l)] = .ok (mT [.str (S x), .str (S r)]) → fb [tx a, t, some (.lst (txs acc)), tx l, f] = .ok (.nx [tx a, t, some (.lst (txs (acc ++ [x]))), tx r, some (mT [.str (S x), .str (S r)])]) := by
    intro t acc l x r f hacc hf
    have happ : appM (.lst (txs acc)) [mS (S x)] = .ok (mN, .lst (txs (acc ++ [x]))) := by
      rw [show txs (acc ++ [x]) = txs acc ++ [mS (S x)] by simp [txs]]
      exact if_pos (Nat.lt_of_lt_of_le (by rw [List.length_map]; exact hacc) (sz (Nat.le_refl _)))
    subst hfb
    simp only [↓seqS_eq, ↓ifS_eq, ↓setS_eq, ↓retS_eq, ↓augItL_eq, ↓plS2_eq, augK1_l, augK2_i, augK3_s, ↓plX_eq, ↓dropX_eq, ↓setX_eq, ↓retX_eq, ↓augS_eq, ↓parS_eq, ↓asgS_eq, ↓rIf_eq, ↓rOr_eq, ↓vAnd_eq, seqK_nx, seqK_rt, seqK_bk, setK_eq, ifK_t, ifK_f, retK_eq, rIfK_t, rIfK_f, rOrK_t, rOrK_f, R.ok_bind, R.no_bind, getV_0, getV_s, List.set_cons_zero, List.set_cons_succ, ixM_lst, atI_0, atI_1, atI_2, atI_3, ofO_some, oEq_ii, oNe_ii, oGt_ii, oGe_ii, oLt_ii, oLe_ii, oAdd_ii, oAddI_ii, oSub_ii, asB_ok, intR_ok, asIm_ok, asI_ok, cutM_ints, setItL_0, setItL_1, setItL_2, setItL_3, subM_nil, updM_nil, env0, List.map_cons, List.map_nil, List.length_cons, List.length_nil, List.cons_append, List.nil_append, decide_true, decide_false, intM_int, mLst_one, Nat.zero_add, Nat.reduceAdd, Nat.reduceSub, List.replicate_succ, List.replicate_zero, if_true, if_false, wipeE_eq, wipeR_nil, wipeR_cons, List.contains_cons, List.contains_nil, Nat.reduceBEq, Bool.or_true, Bool.true_or, Bool.or_false, Bool.false_or, cond_true, cond_false, hf, isN_T, ix_0, ix_1, nextS, happ]
  obtain ⟨ρ, g⟩ := law_loop C hn hy h hl ha (rngM 0 ((a.length + 1 : Nat) : Int)) none [] none (by rw [hrl]; omega) (by simp; omega)
  have g : forR (gSet 1) fb (rngM 0 ((a.length + 1 : Nat) : Int)) [tx a, none, some (.lst []), tx a, none] = _ := g
  rw [forS_rt (ms := rngM 0 ((a.length + 1 : Nat) : Int)) (ρ1 := [tx a, none, some (.lst []), tx a, none]) (pure_run (rng_run (n := a.length + 1) (by
    simp only [↓seqS_eq, ↓ifS_eq, ↓setS_eq, ↓retS_eq, ↓augItL_eq, ↓plS2_eq, augK1_l, augK2_i, augK3_s, ↓plX_eq, ↓dropX_eq, ↓setX_eq, ↓retX_eq, ↓augS_eq, ↓parS_eq, ↓asgS_eq, ↓rIf_eq, ↓rOr_eq, ↓vAnd_eq, seqK_nx, seqK_rt, seqK_bk, setK_eq, ifK_t, ifK_f, retK_eq, rIfK_t, rIfK_f, rOrK_t, rOrK_f, R.ok_bind, R.no_bind, getV_0, getV_s, List.set_cons_zero, List.set_cons_succ, ixM_lst, atI_0, atI_1, atI_2, atI_3, ofO_some, oEq_ii, oNe_ii, oGt_ii, oGe_ii, oLt_ii, oLe_ii, oAdd_ii, oAddI_ii, oSub_ii, asB_ok, intR_ok, asIm_ok, asI_ok, cutM_ints, setItL_0, setItL_1, setItL_2, setItL_3, subM_nil, updM_nil, env0, List.map_cons, List.map_nil, List.length_cons, List.length_nil, List.cons_append, List.nil_append, decide_true, decide_false, intM_int, mLst_one, Nat.zero_add, Nat.reduceAdd, Nat.reduceSub, List.replicate_succ, List.replicate_zero, if_true, if_false, wipeE_eq, wipeR_nil, wipeR_cons, List.contains_cons, List.contains_nil, Nat.reduceBEq, Bool.or_true, Bool.true_or, Bool.or_false, Bool.false_or, cond_true, cond_false, l1]
    exact congrArg (fun z => R.ok [mI z]) (Int.natCast_succ _).symm) (by omega))) g, R.ok_bind, seqK_wrt, retF_wrt]
  rfl
end DL.K52
/-! LT9: _law_alike of a value and itself. -/
namespace DL.K52
open PySem PySem.Spec PyProof.Rows L2 DL SX
theorem eqD_same {m : M} {d : PyData} (hd : dM m = some d) (hp : d.plain = true) (hk : d.depth ≤ 60) : eqD m m = .ok true := by
  unfold eqD
  rw [hd]
  show (if d.depth ≤ 60 then R.ok (PyData.eqv d d) else .no) = _
  rw [if_pos hk, SeqAt.eqv_refl_plain d hp]
theorem alike_ok (C : Addr) {m : M} {d : PyData} (hd : dM m = some d) (he : eqR m m = .ok true) (hs : d.showable = true) (hl : d.shown.length ≤ sizeLine) (hk : d.depth ≤ 60) : _law_alike_f C [m, m] = .ok (mB true) := by
  have h1 : reprM [m] = .ok (mS d.shown) := by
    unfold reprM
    simp only [hd]
    rw [if_pos ⟨hs, hl, hk⟩]
  have h2 : oEq (mS d.shown) (mS d.shown) = .ok (mB true) := by
    rw [oEq_ss, beq_self_eq_true]
  have h3 : oEq m m = .ok (mB true) := by
    show (eqR m m >>= fun b => R.ok (mB b)) = _
    rw [he]; rfl
  unfold _law_alike_f defP _law_alike_b
  rw [if_pos (show [m, m].length = 2 from rfl)]
  simp only [↓seqS_eq, ↓ifS_eq, ↓setS_eq, ↓retS_eq, ↓augItL_eq, ↓plS2_eq, augK1_l, augK2_i, augK3_s, ↓plX_eq, ↓dropX_eq, ↓setX_eq, ↓retX_eq, ↓augS_eq, ↓parS_eq, ↓asgS_eq, ↓rIf_eq, ↓rOr_eq, ↓vAnd_eq, seqK_nx, seqK_rt, seqK_bk, setK_eq, ifK_t, ifK_f, retK_eq, rIfK_t, rIfK_f, rOrK_t, rOrK_f, R.ok_bind, R.no_bind, getV_0, getV_s, List.set_cons_zero, List.set_cons_succ, ixM_lst, atI_0, atI_1, atI_2, atI_3, ofO_some, oEq_ii, oNe_ii, oGt_ii, oGe_ii, oLt_ii, oLe_ii, oAdd_ii, oAddI_ii, oSub_ii, asB_ok, intR_ok, asIm_ok, asI_ok, cutM_ints, setItL_0, setItL_1, setItL_2, setItL_3, subM_nil, updM_nil, env0, List.map_cons, List.map_nil, List.length_cons, List.length_nil, List.cons_append, List.nil_append, decide_true, decide_false, intM_int, mLst_one, Nat.zero_add, Nat.reduceAdd, Nat.reduceSub, List.replicate_succ, List.replicate_zero, if_true, if_false, wipeE_eq, wipeR_nil, wipeR_cons, List.contains_cons, List.contains_nil, Nat.reduceBEq, Bool.or_true, Bool.true_or, Bool.or_false, Bool.false_or, cond_true, cond_false, h1, h2, h3, retF]
/-! tuples of texts -/
abbrev strD (xs : List Str) : List PyData := xs.map PyData.str
theorem dIs_str : ∀ xs : List Str, dIs (xs.map I.str) = strD xs
  | [] => by simp only [List.map_nil, dIs, strD]
  | x :: xs => by simp only [List.map_cons, dIs, dI, strD, dIs_str xs]
theorem strs_plain : ∀ xs : List Str, PyData.plainAll (strD xs) = true
  | [] => by simp only [strD, List.map_nil, PyData.plainAll]
  | x :: xs => by simp only [strD, List.map_cons, PyData.plainAll, PyData.plain, Bool.true_and]; exact strs_plain xs
theorem strs_showable : ∀ xs : List Str, PyData.showableAll (strD xs) = true
  | [] => by simp only [strD, List.map_nil, PyData.showableAll]
  | x :: xs => by simp only [strD, List.map_cons, PyData.showableAll, PyData.showable, Bool.true_and]; exact strs_showable xs
theorem strs_depth : ∀ xs : List Str, PyData.depthAll (strD xs) = 0
  | [] => by simp only [strD, List.map_nil, PyData.depthAll]
  | x :: xs => by simp only [strD, List.map_cons, PyData.depthAll, PyData.depth]; rw [show PyData.depthAll (List.map PyData.str xs) = 0 from strs_depth xs]; rfl
def wts (xs : List Str) : Nat := (xs.map fun x => x.length + 1).sum
theorem strs_weight : ∀ xs : List Str, PyData.weightAll (strD xs) = wts xs
  | [] => by simp only [strD, List.map_nil, PyData.weightAll, wts, List.sum_nil]
  | x :: xs => by
    have := strs_weight xs
    simp only [strD, List.map_cons, PyData.weightAll, PyData.weight, wts, List.sum_cons] at this ⊢
    rw [this]
    rfl
/-- signs below 128 -/
def AscS (x : Str) : Prop := ∀ c ∈ x.cps.toList, c < 128
theorem strs_short : ∀ {xs : List Str}, (∀ x ∈ xs, AscS x) → PyData.leavesShortAll 13 (strD xs) = true
  | [], _ => by simp only [strD, List.map_nil, PyData.leavesShortAll]
  | x :: xs, h => by
    simp only [strD, List.map_cons, PyData.leavesShortAll, PyData.leavesShort, Bool.and_eq_true, List.all_eq_true, decide_eq_true_eq]
    exact ⟨fun c hc => Nat.lt_trans (h x (List.mem_cons_self ..) c hc) (by decide), strs_short fun y hy => h y (List.mem_cons_of_mem _ hy)⟩
theorem int_short {n : Nat} (h : n < 10 ^ 10) : PyData.leavesShort 13 (.int (n : Nat)) = true := by
  have h1 : (PyData.shown (.int (n : Nat))).length ≤ 13 := by
    have e : PyData.shown (.int (n : Nat)) = S (TL.numL n) := num_S n
    rw [e, S_len]
    exact Nat.le_trans (numL_small h) (by decide)
  unfold PyData.leavesShort
  exact decide_eq_true h1
theorem int_weight {n : Nat} (h : n ≤ 100000) : PyData.weight (.int (n : Nat)) ≤ 100001 := by
  simp only [PyData.weight, Int.natAbs_natCast]
  split
  · omega
  · have := Nat.log2_le_self n
    omega
theorem int_showable {n : Nat} (h : n ≤ 100000) : PyData.showable (.int (n : Nat)) = true := by
  simp only [PyData.showable, Int.natAbs_natCast, decide_eq_true_eq]
  by_cases h0 : n = 0
  · subst h0; decide
  · exact (Nat.log2_lt h0 (k := 1920)).mpr (Nat.lt_of_le_of_lt h (by decide +kernel))
section
variable {xs : List Str} {n : Nat}
theorem pair_facts (hx : ∀ x ∈ xs, AscS x) (hw : wts xs ≤ 100000) (hn : n ≤ 100000) :
    PyData.plainAll [.tuple (strD xs), .int (n : Nat)] = true ∧ PyData.showableAll [.tuple (strD xs), .int (n : Nat)] = true ∧ PyData.depthAll [.tuple (strD xs), .int (n : Nat)] = 1 ∧ PyData.leavesShortAll 13 [.tuple (strD xs), .int (n : Nat)] = true ∧ PyData.weightAll [.tuple (strD xs), .int (n : Nat)] ≤ 2 ^ 20 := by
  refine ⟨?_, ?_, ?_, ?_, ?_⟩
  · simp only [PyData.plainAll, PyData.plain, strs_plain, Bool.and_self]
  · simp only [PyData.showableAll, int_showable hn, Bool.and_true]
    simp only [PyData.showable, strs_showable]
  · simp only [PyData.depthAll, PyData.depth, strs_depth]
    rfl
  · simp only [PyData.leavesShortAll, int_short (n := n) (by omega), Bool.and_true]
    simp only [PyData.leavesShort, strs_short hx]
  · have := int_weight hn
    simp only [PyData.weightAll]
    rw [show PyData.weight (.tuple (strD xs)) = wts xs by simp only [PyData.weight, strs_weight]]
    omega
theorem alike_tup (C : Addr) (hx : ∀ x ∈ xs, AscS x) (hw : wts xs ≤ 100000) (hn : n ≤ 100000) : _law_alike_f C [mT [.tup (xs.map I.str), .int (n : Nat)], mT [.tup (xs.map I.str), .int (n : Nat)]] = .ok (mB true) := by
  obtain ⟨h1, h2, h3, h4, h5⟩ := pair_facts hx hw hn
  have hd : dM (mT [.tup (xs.map I.str), .int (n : Nat)]) = some (.tuple [.tuple (strD xs), .int (n : Nat)]) := by
    simp only [dM, dI, dIs, dIs_str]
  have hk : PyData.depth (.tuple [.tuple (strD xs), .int (n : Nat)]) ≤ 60 := by simp only [PyData.depth, h3]; decide
  have hp : PyData.plain (.tuple [.tuple (strD xs), .int (n : Nat)]) = true := by simp only [PyData.plain]; exact h1
  refine alike_ok C hd (eqD_same hd hp hk) (by simp only [PyData.showable]; exact h2) (PyData.shown_fits (B := 13) (by decide) (by decide) (by simp only [PyData.leavesShort]; exact h4) (by simp only [PyData.weight]; exact h5)) hk
theorem alike_lst (C : Addr) (hx : ∀ x ∈ xs, AscS x) (hw : wts xs ≤ 100000) (hn : n ≤ 100000) : _law_alike_f C [.lst [mT (xs.map I.str), mI (n : Nat)], .lst [mT (xs.map I.str), mI (n : Nat)]] = .ok (mB true) := by
  obtain ⟨h1, h2, h3, h4, h5⟩ := pair_facts hx hw hn
  have hd : dM (.lst [mT (xs.map I.str), mI (n : Nat)]) = some (.list [.tuple (strD xs), .int (n : Nat)]) := by
    simp only [dM, dMs, dI, dIs_str, Option.map_some]
  have hk : PyData.depth (.list [.tuple (strD xs), .int (n : Nat)]) ≤ 60 := by simp only [PyData.depth, h3]; decide
  have hp : PyData.plain (.list [.tuple (strD xs), .int (n : Nat)]) = true := by simp only [PyData.plain]; exact h1
  refine alike_ok C hd (eqD_same hd hp hk) (by simp only [PyData.showable]; exact h2) (PyData.shown_fits (B := 13) (by decide) (by decide) (by simp only [PyData.leavesShort]; exact h4) (by simp only [PyData.weight]; exact h5)) hk
theorem oNe_tup : oNe (mT (xs.map I.str)) (mT (xs.map I.str)) = .ok (mB false) := by
  have hd : dM (mT (xs.map I.str)) = some (.tuple (strD xs)) := by simp only [dM, dI, dIs_str]
  have := eqD_same hd (by simp only [PyData.plain, strs_plain]) (by simp only [PyData.depth, strs_depth]; decide)
  show (eqD (mT (xs.map I.str)) (mT (xs.map I.str)) >>= fun b => R.ok (mB (!b))) = _
  rw [this]; rfl
end
/-! frames of a text, told twice -/
theorem Frs.sum {l z : List Nat} {xs : List (List Nat)} (h : Frs l xs z) : wts (xs.map S) + z.length ≤ l.length ∧ ∀ x ∈ xs, ∀ c ∈ x, c ∈ l := by
  induction h with
  | stop _ => exact ⟨by simp [wts], by simp⟩
  | @step x r z xs _ ih =>
    have hfl : (frm x).length = (TL.numL x.length).length + 1 + ((TL.numL (chk x)).length + 1 + (x.length + 1)) := by
      unfold frm
      simp only [List.length_append, List.length_cons, List.length_nil]
      omega
    refine ⟨?_, ?_⟩
    · have : wts ((x :: xs).map S) = x.length + 1 + wts (xs.map S) := by
        simp only [wts, List.map_cons, List.sum_cons, S_len]
      rw [this, List.length_append]
      omega
    · intro y hy c hc
      rcases List.mem_cons.mp hy with rfl | hy
      · refine List.mem_append_left _ ?_
        unfold frm
        simp [hc]
      · exact List.mem_append_right _ (ih.2 y hy c hc)
theorem str_S (xs : List (List Nat)) : (xs.map fun x => I.str (S x)) = (xs.map S).map I.str := by
  rw [List.map_map]; rfl
theorem frames_alike (C : Addr) {a : List Nat} (hl : a.length ≤ 1000) (ha : Asc a) : ∃ m, frames_in_f C [mS (S a)] = .ok m ∧ _law_frames_f C [mS (S a)] = .ok m ∧ _law_alike_f C [m, m] = .ok (mB true) := by
  obtain ⟨xs, z, h⟩ := Frs.ex _ a (Nat.le_refl _)
  have hs := h.sum
  refine ⟨_, frames_ok C hl ha h, law_frames_ok C hl ha h, ?_⟩
  rw [str_S]
  refine alike_tup C (fun x hx c hc => ?_) (by omega) (by omega)
  obtain ⟨y, hy, rfl⟩ := List.mem_map.mp hx
  exact ha c (hs.2 y hy c hc)
/-- frames, one behind the other -/
def whole (xs : List (List Nat)) : List Nat := (xs.map frm).flatten
theorem Frs.whole : ∀ xs : List (List Nat), Frs (whole xs) xs []
  | [] => .stop fun x r e => by
    have := congrArg List.length e
    have h2 := frm_pos x
    rw [List.length_append] at this
    simp [K52.whole] at this
    omega
  | x :: xs => by
    show Frs (frm x ++ K52.whole xs) (x :: xs) []
    exact .step (Frs.whole xs)
end DL.K52
/-! LT10: files as plain lists. -/
namespace DL.K52
open PySem PySem.Spec PyProof.Rows L2 DL SX
abbrev Fs := List (Str × List Nat)
abbrev Dk (fs : Fs) : List (Key × M) := fs.map fun p => (Sum.inr p.1, mS (S p.2))
abbrev D (fs : Fs) : M := .dic (Dk fs)
def getO : Fs → Str → Option (List Nat)
  | [], _ => none
  | (m, y) :: r, n => if m = n then some y else getO r n
def get (fs : Fs) (n : Str) : List Nat := (getO fs n).getD []
def repl (n : Str) (x : List Nat) (p : Str × List Nat) : Str × List Nat := if p.1 = n then (p.1, x) else p
def put : Fs → Str → List Nat → Fs
  | [], n, x => [(n, x)]
  | (m, y) :: r, n, x => if m = n then (m, x) :: r.map (repl n x) else (m, y) :: put r n x
theorem put_cons (m : Str) (y : List Nat) (r : Fs) (n : Str) (x : List Nat) : put ((m, y) :: r) n x = if m = n then (m, x) :: r.map (repl n x) else (m, y) :: put r n x := rfl
def drop (fs : Fs) (n : Str) : Fs := fs.filter fun p => decide (p.1 ≠ n)
theorem inr_eq (a b : Str) : ((Sum.inr a : Key) = Sum.inr b) ↔ a = b := ⟨fun h => Sum.inr.inj h, fun h => h ▸ rfl⟩
theorem dGet_D : ∀ (fs : Fs) (n : Str), dGet (Dk fs) (.inr n) = (getO fs n).map fun a => mS (S a)
  | [], _ => rfl
  | (m, y) :: r, n => by
    have ih := dGet_D r n
    unfold dGet at ih ⊢
    unfold getO
    simp only [Dk, List.map_cons, List.find?_cons]
    by_cases h : m = n
    · rw [if_pos h, decide_eq_true ((inr_eq m n).mpr h)]
      rfl
    · rw [if_neg h, decide_eq_false (fun z => h ((inr_eq m n).mp z))]
      exact ih
theorem repl_D (n : Str) (x : List Nat) : ∀ fs : Fs, (Dk fs).map (fun kv => if kv.1 = Sum.inr n then (kv.1, mS (S x)) else kv) = Dk (fs.map (repl n x))
  | [] => rfl
  | (m, y) :: r => by
    have ih := repl_D n x r
    simp only [Dk, List.map_cons] at ih ⊢
    rw [ih]
    congr 1
    unfold repl
    by_cases h : m = n
    · rw [if_pos ((inr_eq m n).mpr h), if_pos h]
    · rw [if_neg (fun z => h ((inr_eq m n).mp z)), if_neg h]
theorem dPut_D : ∀ (fs : Fs) (n : Str) (x : List Nat), dPut (Dk fs) (.inr n) (mS (S x)) = Dk (put fs n x)
  | [], _, _ => rfl
  | (m, y) :: r, n, x => by
    have ih := dPut_D r n x
    have rp := repl_D n x r
    unfold dPut at ih ⊢
    unfold put
    simp only [Dk, List.map_cons, List.any_cons] at ih rp ⊢
    by_cases h : m = n
    · rw [if_pos h, decide_eq_true ((inr_eq m n).mpr h), Bool.true_or, if_pos rfl, if_pos ((inr_eq m n).mpr h), rp]
      rfl
    · rw [if_neg h, decide_eq_false (fun z => h ((inr_eq m n).mp z)), Bool.false_or]
      split at ih
      · rename_i q
        rw [if_pos q, if_neg (fun z => h ((inr_eq m n).mp z)), ih]
        rfl
      · rename_i q
        rw [if_neg q, List.cons_append, ih]
        rfl
theorem dDrop_D (n : Str) : ∀ fs : Fs, dDrop (Dk fs) (.inr n) = Dk (drop fs n)
  | [] => rfl
  | (m, y) :: r => by
    have ih := dDrop_D n r
    unfold dDrop drop at ih ⊢
    simp only [Dk, List.map_cons, List.filter_cons] at ih ⊢
    by_cases h : m = n
    · rw [decide_eq_false (show ¬ (Sum.inr m : Key) ≠ Sum.inr n from fun z => z ((inr_eq m n).mpr h)), decide_eq_false (show ¬ m ≠ n from fun z => z h)]
      exact ih
    · rw [decide_eq_true (show (Sum.inr m : Key) ≠ Sum.inr n from fun z => h ((inr_eq m n).mp z)), decide_eq_true (show m ≠ n from h)]
      rw [if_pos rfl, if_pos rfl, ih]
      rfl
theorem getO_put : ∀ (fs : Fs) (n : Str) (x : List Nat), getO (put fs n x) n = some x
  | [], n, x => if_pos rfl
  | (m, y) :: r, n, x => by
    unfold put
    by_cases h : m = n
    · rw [if_pos h]; exact if_pos h
    · rw [if_neg h]
      show (if m = n then _ else getO (put r n x) n) = _
      rw [if_neg h]; exact getO_put r n x
theorem put_put : ∀ (fs : Fs) (n : Str) (x y : List Nat), put (put fs n x) n y = put fs n y
  | [], n, x, y => if_pos rfl
  | (m, z) :: r, n, x, y => by
    by_cases h : m = n
    · rw [put_cons, if_pos h, put_cons, if_pos h, put_cons, if_pos h, List.map_map]
      congr 1
      apply List.map_congr_left
      intro p _
      show repl n y (repl n x p) = repl n y p
      unfold repl
      by_cases q : p.1 = n
      · rw [if_pos q]
        show (if p.1 = n then (p.1, y) else _) = _
        rw [if_pos q, if_pos q]
      · rw [if_neg q, if_neg q]
    · rw [put_cons, if_neg h, put_cons, if_neg h, put_cons, if_neg h, put_put]
abbrev nms (fs : Fs) : List Str := fs.map (·.1)
theorem nms_repl (n : Str) (x : List Nat) (fs : Fs) : nms (fs.map (repl n x)) = nms fs := by
  unfold nms
  rw [List.map_map]
  apply List.map_congr_left
  intro p _
  show (repl n x p).1 = p.1
  unfold repl
  split <;> rfl
theorem nms_put : ∀ (fs : Fs) (n : Str) (x : List Nat), nms (put fs n x) = if n ∈ nms fs then nms fs else nms fs ++ [n]
  | [], n, x => by rw [if_neg (by simp)]; rfl
  | (m, y) :: r, n, x => by
    unfold put
    by_cases h : m = n
    · rw [if_pos h, if_pos (by simp [h])]
      show m :: nms (r.map (repl n x)) = _
      rw [nms_repl]
      rfl
    · rw [if_neg h]
      show m :: nms (put r n x) = _
      rw [nms_put r n x]
      show _ = if n ∈ m :: nms r then m :: nms r else m :: nms r ++ [n]
      by_cases q : n ∈ nms r
      · rw [if_pos q, if_pos (List.mem_cons_of_mem _ q)]
      · rw [if_neg q, if_neg (fun z => by
          rcases List.mem_cons.mp z with z | z
          · exact h z.symm
          · exact q z)]
        rfl
theorem put_new : ∀ (fs : Fs) (n : Str) (x : List Nat), n ∉ nms fs → put fs n x = fs ++ [(n, x)]
  | [], n, x, _ => rfl
  | (m, y) :: r, n, x, h => by
    unfold put
    rw [if_neg (fun z => h (by simp [z])), put_new r n x fun z => h (List.mem_cons_of_mem _ z)]
    rfl
theorem repl_id (n : Str) (x : List Nat) : ∀ {fs : Fs}, n ∉ nms fs → fs.map (repl n x) = fs
  | [], _ => rfl
  | (m, y) :: r, h => by
    rw [List.map_cons, repl_id n x fun z => h (List.mem_cons_of_mem _ z)]
    unfold repl
    rw [if_neg (fun z => h (by simp [show m = n from z]))]
def big (fs : Fs) : Nat := (fs.map fun p => p.2.length + 1).sum
theorem big_cons (p : Str × List Nat) (fs : Fs) : big (p :: fs) = p.2.length + 1 + big fs := by simp [big]
theorem get_le : ∀ (fs : Fs) (n : Str), (get fs n).length ≤ big fs
  | [], _ => Nat.zero_le _
  | (m, y) :: r, n => by
    have ih := get_le r n
    rw [big_cons]
    unfold get getO
    unfold get at ih
    split
    · show y.length ≤ y.length + 1 + _
      omega
    · show _ ≤ y.length + 1 + _
      omega
theorem big_put : ∀ {fs : Fs} {n : Str} (s : List Nat), (nms fs).Nodup → big (put fs n (get fs n ++ s)) ≤ big fs + s.length + 1
  | [], n, s, _ => by
    show big [(n, [] ++ s)] ≤ _
    rw [big_cons]
    show s.length + 1 + 0 ≤ 0 + s.length + 1
    omega
  | (m, y) :: r, n, s, h => by
    have hn : (m :: nms r).Nodup := h
    rw [List.nodup_cons] at hn
    unfold put get getO
    by_cases q : m = n
    · rw [if_pos q, if_pos q, big_cons, big_cons, repl_id _ _ (q ▸ hn.1)]
      show (y ++ s).length + 1 + big r ≤ y.length + 1 + big r + s.length + 1
      rw [List.length_append]
      omega
    · have ih := big_put (n := n) s hn.2
      unfold get at ih
      rw [if_neg q, if_neg q, big_cons, big_cons]
      omega
theorem big_drop : ∀ (fs : Fs) (n : Str), big (drop fs n) ≤ big fs
  | [], _ => Nat.le_refl _
  | p :: r, n => by
    have ih := big_drop r n
    unfold drop at ih ⊢
    rw [List.filter_cons, big_cons]
    split
    · rw [big_cons]; omega
    · omega
theorem drop_no : ∀ {fs : Fs} {n : Str}, getO fs n = none → drop fs n = fs
  | [], _, _ => rfl
  | (m, y) :: r, n, h => by
    unfold getO at h
    by_cases q : m = n
    · rw [if_pos q] at h; cases h
    · rw [if_neg q] at h
      have ih := drop_no h
      unfold drop at ih ⊢
      rw [List.filter_cons, ih, decide_eq_true q, if_pos rfl]
theorem len_big : ∀ fs : Fs, fs.length ≤ big fs
  | [] => Nat.le_refl _
  | p :: r => by
    have := len_big r
    rw [big_cons, List.length_cons]
    omega
/-! one sign put behind a file, or one file dropped -/
abbrev Sg := Str × List Nat
def step1 (fs : Fs) (p : Sg) : Fs := if p.2 = [] then drop fs p.1 else put fs p.1 (get fs p.1 ++ p.2)
def four : List Str := ["a", "b", "log", "seg"]
structure FsOk (k : Nat) (fs : Fs) : Prop where
  nd : (nms fs).Nodup
  nm : ∀ n ∈ nms fs, n ∈ four
  len : big fs ≤ k
def SgOk (p : Sg) : Prop := p.1 ∈ four ∧ p.2.length ≤ 1
theorem FsOk.mono {k k' : Nat} {fs : Fs} (h : FsOk k fs) (hk : k ≤ k') : FsOk k' fs := ⟨h.nd, h.nm, Nat.le_trans h.len hk⟩
theorem FsOk.nil : FsOk 0 [] := ⟨by simp [nms], by simp [nms], Nat.le_refl _⟩
theorem FsOk.step {k : Nat} {fs : Fs} {p : Sg} (h : FsOk k fs) (hp : SgOk p) : FsOk (k + 2) (step1 fs p) := by
  unfold step1
  split
  · refine ⟨?_, ?_, Nat.le_trans (big_drop _ _) (Nat.le_trans h.len (by omega))⟩
    · exact h.nd.sublist (List.Sublist.map _ (List.filter_sublist ..))
    · intro n hn
      obtain ⟨q, hq, rfl⟩ := List.mem_map.mp hn
      exact h.nm _ (List.mem_map.mpr ⟨q, (List.mem_filter.mp hq).1, rfl⟩)
  · refine ⟨?_, ?_, ?_⟩
    · rw [nms_put]
      split
      · exact h.nd
      · rename_i q
        rw [List.nodup_append]
        exact ⟨h.nd, by simp, fun a ha b hb e => q (by rw [List.mem_singleton] at hb; rw [← hb, ← e]; exact ha)⟩
    · rw [nms_put]
      intro n hn
      split at hn
      · exact h.nm n hn
      · rcases List.mem_append.mp hn with z | z
        · exact h.nm n z
        · rw [List.mem_singleton] at z
          rw [z]; exact hp.1
    · have := big_put (n := p.1) p.2 h.nd
      have := h.len
      have := hp.2
      omega
theorem FsOk.fold : ∀ {l : List Sg} {k : Nat} {fs : Fs}, FsOk k fs → (∀ p ∈ l, SgOk p) → FsOk (k + 2 * l.length) (l.foldl step1 fs)
  | [], _, _, h, _ => h
  | p :: l, k, fs, h, hl => by
    have := FsOk.fold (h.step (hl p (List.mem_cons_self ..))) (fun q hq => hl q (List.mem_cons_of_mem _ hq))
    rw [List.foldl_cons]
    exact this.mono (by rw [List.length_cons]; omega)
theorem nodup_sub {α : Type} [DecidableEq α] : ∀ {l L : List α}, l.Nodup → (∀ a ∈ l, a ∈ L) → l.length ≤ L.length
  | [], _, _, _ => Nat.zero_le _
  | a :: l, L, h, s => by
    rw [List.nodup_cons] at h
    have ha := s a (List.mem_cons_self ..)
    have := nodup_sub (L := L.erase a) h.2 fun b hb => (List.mem_erase_of_ne (show b ≠ a from fun z => h.1 (z ▸ hb))).mpr (s b (List.mem_cons_of_mem _ hb))
    rw [List.length_erase_of_mem ha] at this
    have := List.length_pos_of_mem ha
    rw [List.length_cons]
    omega
theorem FsOk.four {k : Nat} {fs : Fs} (h : FsOk k fs) : (nms fs).length ≤ 4 := nodup_sub h.nd h.nm
/-- a text put behind, sign by sign -/
theorem fold_put : ∀ {t : List Nat} {n : Str} {fs : Fs}, t ≠ [] → (t.map fun c => ((n, [c]) : Sg)).foldl step1 fs = put fs n (get fs n ++ t)
  | [c], n, fs, _ => by
    show step1 fs (n, [c]) = _
    exact if_neg (by simp)
  | c :: d :: t, n, fs, _ => by
    rw [List.map_cons, List.foldl_cons, fold_put (t := d :: t) (by simp)]
    have e : step1 fs (n, [c]) = put fs n (get fs n ++ [c]) := if_neg (by simp)
    rw [e]
    have e2 : get (put fs n (get fs n ++ [c])) n = get fs n ++ [c] := by
      show (getO _ n).getD [] = _
      rw [getO_put]
      rfl
    rw [e2, put_put, List.append_assoc]
    rfl
end DL.K52
/-! LT11: what is done with files. -/
namespace DL.K52
open PySem PySem.Spec PyProof.Rows L2 DL SX
theorem get2_D (fs : Fs) (n : Str) : dGet2 (D fs) (mS n) (mS "") = .ok (mS (S (get fs n))) := by
  show (match dGet (Dk fs) (.inr n) with | some m => R.ok m | none => R.ok (mS "")) = _
  rw [dGet_D]
  unfold get
  cases getO fs n with
  | none => exact congrArg R.ok nil_S
  | some a => rfl
theorem has_D (fs : Fs) (n : Str) : hasKey (D fs) (mS n) = .ok (getO fs n).isSome := by
  show R.ok (dGet (Dk fs) (.inr n)).isSome = _
  rw [dGet_D]
  cases getO fs n <;> rfl
theorem item_D {fs : Fs} {n : Str} {a : List Nat} (h : getO fs n = some a) : dItem (D fs) (mS n) = .ok (mS (S a)) := by
  show (match dGet (Dk fs) (.inr n) with | some m => R.ok m | none => R.no) = _
  rw [dGet_D, h]
  rfl
theorem pop_D (fs : Fs) (n : Str) : ∃ v, popD (D fs) [mS n, mN] = .ok (v, D (drop fs n)) := by
  show ∃ v, (match dGet (Dk fs) (.inr n) with
      | some (M.im v) => R.ok (M.im v, M.dic (dDrop (Dk fs) (.inr n)))
      | some _ => .no
      | none => .ok (mN, .dic (Dk fs))) = .ok (v, D (drop fs n))
  rw [dGet_D, dDrop_D]
  cases h : getO fs n with
  | none => exact ⟨mN, by rw [drop_no h]; rfl⟩
  | some a => exact ⟨_, rfl⟩
theorem set_D {fs : Fs} (n : Str) (x : List Nat) (h : fs.length < 100000) : setItD (D fs) (mS n) (mS (S x)) = .ok (D (put fs n x)) := by
  show (if (Dk fs).length < sizeLine then R.ok (M.dic (dPut (Dk fs) (.inr n) (mS (S x)))) else .no) = _
  rw [if_pos (Nat.lt_of_lt_of_le (by rw [List.length_map]; exact h) (sz (Nat.le_refl _))), dPut_D]
theorem pairMs_D : ∀ fs : Fs, pairMs (Dk fs) = some (fs.map fun p => I.tup [.str p.1, .str (S p.2)])
  | [] => rfl
  | (n, a) :: r => by
    show (pairMs (Dk r)).map (.tup [kI (.inr n), .str (S a)] :: ·) = _
    rw [pairMs_D r]
    rfl
theorem items_D (fs : Fs) : itemsL (D fs) = .ok (.lst (fs.map fun p => mT [.str p.1, .str (S p.2)])) := by
  show (match pairMs (Dk fs) with | some k => R.ok (M.lst (k.map .im)) | none => .no) = _
  rw [pairMs_D]
  show R.ok (M.lst (List.map M.im _)) = _
  rw [List.map_map]
  rfl
theorem pairsM_D : ∀ fs : Fs, pairsM (fs.map fun p => mT [.str p.1, .str (S p.2)]) = some (fs.map fun p => ((.inr p.1, .str (S p.2)) : Key × I))
  | [] => rfl
  | (n, a) :: r => by
    show (match pairI (mT [.str n, .str (S a)]), pairsM (r.map fun p => mT [.str p.1, .str (S p.2)]) with
      | some a, some b => some (a :: b)
      | _, _ => none) = _
    rw [pairsM_D r]
    rfl
theorem merge_D : ∀ {fs acc : Fs}, (nms (acc ++ fs)).Nodup → mergeM (Dk acc) (fs.map fun p => ((.inr p.1, .str (S p.2)) : Key × I)) = Dk (acc ++ fs)
  | [], acc, _ => by rw [List.append_nil]; rfl
  | (n, a) :: r, acc, h => by
    have h1 : n ∉ nms acc := fun z => by
      rw [show nms (acc ++ (n, a) :: r) = nms acc ++ n :: nms r by simp [nms], List.nodup_append] at h
      exact h.2.2 n z n (List.mem_cons_self ..) rfl
    show mergeM (dPut (Dk acc) (.inr n) (mS (S a))) _ = _
    rw [dPut_D, put_new _ _ _ h1]
    have := merge_D (fs := r) (acc := acc ++ [(n, a)]) (by rw [List.append_assoc]; exact h)
    rw [List.append_assoc] at this
    exact this
theorem dict_items {k : Nat} {fs : Fs} (h : FsOk k fs) : dictM [.lst (fs.map fun p => mT [.str p.1, .str (S p.2)])] = .ok (D fs) := by
  show (match pairsM (fs.map fun p => mT [.str p.1, .str (S p.2)]) with | some ps => R.ok (M.dic (mergeM [] ps)) | none => .no) = _
  rw [pairsM_D]
  exact congrArg (fun z => R.ok (M.dic z)) (merge_D (fs := fs) (acc := []) h.nd)
theorem imVals_D : ∀ fs : Fs, imVals (Dk fs) = some (fs.map fun p => I.str (S p.2)) := fun fs => by
  unfold imVals
  rw [List.map_map, ← allIm_map', List.map_map]
  rfl
theorem dict_D (fs : Fs) : dictM [D fs] = .ok (D fs) := by
  show (match imVals (Dk fs) with | some _ => R.ok (M.dic (Dk fs)) | none => .no) = _
  rw [imVals_D]
theorem txtKeys_D : ∀ fs : Fs, txtKeys (Dk fs) = some (nms fs)
  | [] => rfl
  | (n, a) :: r => by
    show (txtKeys (Dk r)).map (n :: ·) = _
    rw [txtKeys_D r]
    rfl
theorem sorted_D {k : Nat} {fs : Fs} (h : FsOk k fs) : sortedM [D fs] = .ok (.lst ((sortS (nms fs)).map mS)) := by
  show (match txtKeys (Dk fs) with | some ks => (if ks.length < 64 then R.ok (M.lst ((sortS ks).map mS)) else .no) | none => .no) = _
  rw [txtKeys_D]
  exact if_pos (Nat.lt_of_le_of_lt h.four (by decide))
theorem tuple_strs (l : List Str) : tupleM [.lst (l.map mS)] = .ok (mT (l.map I.str)) := by
  show (match allIm (l.map mS) with | some k => R.ok (mT k) | none => .no) = _
  rw [allIm_strs]
theorem four_asc : ∀ n ∈ four, AscS n ∧ n.length ≤ 3 := by
  unfold four AscS
  decide +kernel
theorem wts_le {b : Nat} : ∀ {xs : List Str}, (∀ x ∈ xs, x.length ≤ b) → wts xs ≤ xs.length * (b + 1)
  | [], _ => by simp [wts]
  | x :: xs, h => by
    have := wts_le fun y hy => h y (List.mem_cons_of_mem _ hy)
    have := h x (List.mem_cons_self ..)
    simp only [wts, List.map_cons, List.sum_cons, List.length_cons, Nat.add_mul, Nat.one_mul] at *
    omega
theorem sort_facts {k : Nat} {fs : Fs} (h : FsOk k fs) : (∀ x ∈ sortS (nms fs), AscS x) ∧ wts (sortS (nms fs)) ≤ 100000 := by
  have hm : ∀ x ∈ sortS (nms fs), x ∈ four := fun x hx => h.nm x (List.mem_mergeSort.mp hx)
  refine ⟨fun x hx => (four_asc x (hm x hx)).1, ?_⟩
  have h1 := wts_le (b := 3) fun x hx => (four_asc x (hm x hx)).2
  have h2 : (sortS (nms fs)).length = (nms fs).length := List.length_mergeSort _
  have := h.four
  omega
abbrev sg (p : Sg) : M := mT [.str p.1, .str (S p.2)]
theorem gSg {i j : Nat} {p : Sg} {ρ : DL.Env} : gTupM 2 (gConsM (gSet i) (gConsM (gSet j) gNilM)) (sg p) ρ = .ok ((ρ.set i (some (mS p.1))).set j (some (mS (S p.2)))) := rfl
theorem files_loop {fb : DL.Env → R Fl} {a b : Option M} (hb : ∀ (fs : Fs) (p : Sg), FsOk 99998 fs → SgOk p → fb [a, b, some (D fs), some (mS p.1), some (mS (S p.2))] = .ok (.nx [a, b, some (D (step1 fs p)), some (mS p.1), some (mS (S p.2))])) :
    ∀ {l : List Sg} {k : Nat} {fs : Fs} {o1 o2 : Option M}, FsOk k fs → (∀ p ∈ l, SgOk p) → k + 2 * l.length ≤ 100000 →
    ∃ o3 o4, forR (gTupM 2 (gConsM (gSet 3) (gConsM (gSet 4) gNilM))) fb (l.map sg) [a, b, some (D fs), o1, o2] = .ok (.nx [a, b, some (D (l.foldl step1 fs)), o3, o4])
  | [], _, _, o1, o2, _, _, _ => ⟨o1, o2, rfl⟩
  | p :: l, k, fs, o1, o2, h, hl, hk => by
    rw [List.length_cons] at hk
    obtain ⟨o3, o4, q⟩ := files_loop hb (l := l) (o1 := some (mS p.1)) (o2 := some (mS (S p.2))) (h.step (hl p (List.mem_cons_self ..))) (fun q hq => hl q (List.mem_cons_of_mem _ hq)) (by omega)
    refine ⟨o3, o4, ?_⟩
    show (gTupM 2 (gConsM (gSet 3) (gConsM (gSet 4) gNilM)) (sg p) [a, b, some (D fs), o1, o2] >>= _) = _
    rw [gSg]
    show (fb [a, b, some (D fs), some (mS p.1), some (mS (S p.2))] >>= _) = _
    rw [hb fs p (h.mono (by omega)) (hl p (List.mem_cons_self ..))]
    exact q
theorem items_lst (l : List M) : itemsM (.lst l) = .ok l := rfl
theorem wipeO_nx (W : List Nat) (ρ : DL.Env) : wipeO W (.nx ρ) = .nx (wipeE W ρ) := rfl
theorem step_run {fs : Fs} {p : Sg} (h : FsOk 99998 fs) (hp : SgOk p) {a b : Option M} :
    ifS (fun ρ => (getV ρ 4 >>= fun x => R.ok (mS "") >>= fun y => oEq x y >>= asB))
  (dropX (fun ρ => (getV ρ 3 >>= fun x => R.ok mN >>= fun y => R.ok [x, y]) >>= fun ms => plX 2 [] (fun n => popD n ms) ρ))
  (plS2 2 [] (fun ρ => ((getV ρ 2 >>= fun x => getV ρ 3 >>= fun y => R.ok (mS "") >>= fun z => dGet2 x y z) >>= fun x => getV ρ 4 >>= fun y => oAdd x y)) (fun ρ => getV ρ 3) setItD)
    [a, b, some (D fs), some (mS p.1), some (mS (S p.2))] = .ok (.nx [a, b, some (D (step1 fs p)), some (mS p.1), some (mS (S p.2))]) := by
  have h1 := oEq_SS p.2 []
  have h2 : oEq (mS (S p.2)) (mS "") = .ok (mB (decide (p.2 = []))) := by rw [nil_S]; exact h1
  obtain ⟨v, h3⟩ := pop_D fs p.1
  have h4 := get2_D fs p.1
  have := get_le fs p.1
  have := h.len
  have := hp.2
  have := len_big fs
  have h5 := add_S (a := get fs p.1) (b := p.2) (by omega)
  have h6 := set_D (fs := fs) p.1 (get fs p.1 ++ p.2) (by omega)
  unfold step1
  by_cases q : p.2 = []
  · rw [if_pos q]
    rw [decide_eq_true q] at h2
    simp only [↓seqS_eq, ↓ifS_eq, ↓setS_eq, ↓retS_eq, ↓augItL_eq, ↓plS2_eq, augK1_l, augK2_i, augK3_s, ↓plX_eq, ↓dropX_eq, ↓setX_eq, ↓retX_eq, ↓augS_eq, ↓parS_eq, ↓asgS_eq, ↓rIf_eq, ↓rOr_eq, ↓vAnd_eq, seqK_nx, seqK_rt, seqK_bk, setK_eq, ifK_t, ifK_f, retK_eq, rIfK_t, rIfK_f, rOrK_t, rOrK_f, R.ok_bind, R.no_bind, getV_0, getV_s, List.set_cons_zero, List.set_cons_succ, ixM_lst, atI_0, atI_1, atI_2, atI_3, ofO_some, oEq_ii, oNe_ii, oGt_ii, oGe_ii, oLt_ii, oLe_ii, oAdd_ii, oAddI_ii, oSub_ii, asB_ok, intR_ok, asIm_ok, asI_ok, cutM_ints, setItL_0, setItL_1, setItL_2, setItL_3, subM_nil, updM_nil, env0, List.map_cons, List.map_nil, List.length_cons, List.length_nil, List.cons_append, List.nil_append, decide_true, decide_false, intM_int, mLst_one, Nat.zero_add, Nat.reduceAdd, Nat.reduceSub, List.replicate_succ, List.replicate_zero, if_true, if_false, wipeE_eq, wipeR_nil, wipeR_cons, List.contains_cons, List.contains_nil, Nat.reduceBEq, Bool.or_true, Bool.true_or, Bool.or_false, Bool.false_or, cond_true, cond_false, h2, h3]
  · rw [if_neg q]
    rw [decide_eq_false q] at h2
    simp only [↓seqS_eq, ↓ifS_eq, ↓setS_eq, ↓retS_eq, ↓augItL_eq, ↓plS2_eq, augK1_l, augK2_i, augK3_s, ↓plX_eq, ↓dropX_eq, ↓setX_eq, ↓retX_eq, ↓augS_eq, ↓parS_eq, ↓asgS_eq, ↓rIf_eq, ↓rOr_eq, ↓vAnd_eq, seqK_nx, seqK_rt, seqK_bk, setK_eq, ifK_t, ifK_f, retK_eq, rIfK_t, rIfK_f, rOrK_t, rOrK_f, R.ok_bind, R.no_bind, getV_0, getV_s, List.set_cons_zero, List.set_cons_succ, ixM_lst, atI_0, atI_1, atI_2, atI_3, ofO_some, oEq_ii, oNe_ii, oGt_ii, oGe_ii, oLt_ii, oLe_ii, oAdd_ii, oAddI_ii, oSub_ii, asB_ok, intR_ok, asIm_ok, asI_ok, cutM_ints, setItL_0, setItL_1, setItL_2, setItL_3, subM_nil, updM_nil, env0, List.map_cons, List.map_nil, List.length_cons, List.length_nil, List.cons_append, List.nil_append, decide_true, decide_false, intM_int, mLst_one, Nat.zero_add, Nat.reduceAdd, Nat.reduceSub, List.replicate_succ, List.replicate_zero, if_true, if_false, wipeE_eq, wipeR_nil, wipeR_cons, List.contains_cons, List.contains_nil, Nat.reduceBEq, Bool.or_true, Bool.true_or, Bool.or_false, Bool.false_or, cond_true, cond_false, h2, h4, h5, h6]
theorem law_files_ok (C : Addr) {k : Nat} {fs : Fs} {l : List Sg} (h : FsOk k fs) (hl : ∀ p ∈ l, SgOk p) (hk : k + 2 * l.length ≤ 100000) : _law_files_f C [D fs, .lst (l.map sg)] = .ok (D (l.foldl step1 fs)) := by
  have h1 := items_D fs
  have h2 := dict_items h
  unfold _law_files_f defP _law_files_b
  rw [if_pos (show [D fs, .lst (l.map sg)].length = 2 from rfl)]
  generalize hfb : ifS _ _ _ = fb
  obtain ⟨o3, o4, q⟩ := files_loop (fb := fb) (a := some (D fs)) (b := some (.lst (l.map sg))) (fun fs p h hp => by
    subst hfb
    exact step_run h hp) (l := l) (o1 := none) (o2 := none) h hl hk
  simp only [↓seqS_eq, ↓ifS_eq, ↓setS_eq, ↓retS_eq, ↓augItL_eq, ↓plS2_eq, augK1_l, augK2_i, augK3_s, ↓plX_eq, ↓dropX_eq, ↓setX_eq, ↓retX_eq, ↓augS_eq, ↓parS_eq, ↓asgS_eq, ↓rIf_eq, ↓rOr_eq, ↓vAnd_eq, seqK_nx, seqK_rt, seqK_bk, setK_eq, ifK_t, ifK_f, retK_eq, rIfK_t, rIfK_f, rOrK_t, rOrK_f, R.ok_bind, R.no_bind, getV_0, getV_s, List.set_cons_zero, List.set_cons_succ, ixM_lst, atI_0, atI_1, atI_2, atI_3, ofO_some, oEq_ii, oNe_ii, oGt_ii, oGe_ii, oLt_ii, oLe_ii, oAdd_ii, oAddI_ii, oSub_ii, asB_ok, intR_ok, asIm_ok, asI_ok, cutM_ints, setItL_0, setItL_1, setItL_2, setItL_3, subM_nil, updM_nil, env0, List.map_cons, List.map_nil, List.length_cons, List.length_nil, List.cons_append, List.nil_append, decide_true, decide_false, intM_int, mLst_one, Nat.zero_add, Nat.reduceAdd, Nat.reduceSub, List.replicate_succ, List.replicate_zero, if_true, if_false, wipeE_eq, wipeR_nil, wipeR_cons, List.contains_cons, List.contains_nil, Nat.reduceBEq, Bool.or_true, Bool.true_or, Bool.or_false, Bool.false_or, cond_true, cond_false, h1, h2, forS, pureX, items_lst, q, wipeO_nx, retF]
end DL.K52
/-! LT12: the disk. -/
namespace DL.K52
open PySem PySem.Spec PyProof.Rows L2 DL SX
abbrev Sn := Str × Option (List Nat)
def sv : Option (List Nat) → I
  | none => .non
  | some t => .str (S t)
abbrev sn (p : Sn) : M := mT [.str p.1, sv p.2]
def ob (C : Addr) (fs : Fs) (since : List Sn) : M := .obj C [("its_sure", D fs), ("its_since", .lst (since.map sn))]
def sgs1 : Sn → List Sg
  | (n, none) => [(n, [])]
  | (n, some t) => t.map fun c => (n, [c])
def sgs (l : List Sn) : List Sg := l.flatMap sgs1
theorem sgs_cons (p : Sn) (l : List Sn) : sgs (p :: l) = sgs1 p ++ sgs l := List.flatMap_cons
theorem sgs_add (l k : List Sn) : sgs (l ++ k) = sgs l ++ sgs k := List.flatMap_append
def SnOk (p : Sn) : Prop := p.1 ∈ four ∧ ∀ t, p.2 = some t → t ≠ [] ∧ t.length ≤ 100
theorem sgs1_ok {p : Sn} (h : SnOk p) : ∀ q ∈ sgs1 p, SgOk q := by
  obtain ⟨n, o⟩ := p
  intro q hq
  cases o with
  | none =>
    rw [show sgs1 (n, none) = [(n, [])] from rfl, List.mem_singleton] at hq
    subst hq
    exact ⟨h.1, Nat.zero_le _⟩
  | some t =>
    obtain ⟨c, _, rfl⟩ := List.mem_map.mp hq
    exact ⟨h.1, Nat.le_refl _⟩
theorem sgs_ok {l : List Sn} (h : ∀ p ∈ l, SnOk p) : ∀ q ∈ sgs l, SgOk q := fun q hq => by
  obtain ⟨p, hp, hq⟩ := List.mem_flatMap.mp hq
  exact sgs1_ok (h p hp) q hq
theorem ne1 : (("its_since" : Str) == "its_sure") = false := by decide +kernel
theorem fld_sure (C : Addr) (fs : Fs) (since : List Sn) : fldM C "its_sure" (ob C fs since) = .ok (D fs) := by
  unfold fldM ob
  simp only [if_true, List.lookup_cons, beq_self_eq_true]
theorem fld_since (C : Addr) (fs : Fs) (since : List Sn) : fldM C "its_since" (ob C fs since) = .ok (.lst (since.map sn)) := by
  unfold fldM ob
  simp only [if_true, List.lookup_cons, ne1, beq_self_eq_true]
theorem isObj_ok {C : Addr} {m : Str} (h1 : (m == "its_sure") = false) (h2 : (m == "its_since") = false) (fs : Fs) (since : List Sn) : isObj C m (ob C fs since) = .ok (ob C fs since) := by
  unfold isObj ob
  simp only [if_true, List.lookup_cons, h1, h2, List.lookup_nil, Option.isNone_none]
section
variable (C : Addr) (fs : Fs) (since : List Sn)
theorem is_done : isObj C "done" (ob C fs since) = .ok (ob C fs since) := isObj_ok (by decide +kernel) (by decide +kernel) fs since
theorem is_loose : isObj C "loose" (ob C fs since) = .ok (ob C fs since) := isObj_ok (by decide +kernel) (by decide +kernel) fs since
theorem is_files : isObj C "files" (ob C fs since) = .ok (ob C fs since) := isObj_ok (by decide +kernel) (by decide +kernel) fs since
theorem is_sync : isObj C "sync" (ob C fs since) = .ok (ob C fs since) := isObj_ok (by decide +kernel) (by decide +kernel) fs since
theorem is_names : isObj C "names" (ob C fs since) = .ok (ob C fs since) := isObj_ok (by decide +kernel) (by decide +kernel) fs since
theorem is_text : isObj C "text" (ob C fs since) = .ok (ob C fs since) := isObj_ok (by decide +kernel) (by decide +kernel) fs since
theorem is_crashed : isObj C "crashed" (ob C fs since) = .ok (ob C fs since) := isObj_ok (by decide +kernel) (by decide +kernel) fs since
theorem is_drop : isObj C "drop" (ob C fs since) = .ok (ob C fs since) := isObj_ok (by decide +kernel) (by decide +kernel) fs since
theorem is_add : isObj C "add" (ob C fs since) = .ok (ob C fs since) := isObj_ok (by decide +kernel) (by decide +kernel) fs since
end
def cnt : Sn → Nat
  | (_, none) => 1
  | (_, some t) => t.length
theorem sgs1_len (p : Sn) : (sgs1 p).length = cnt p := by
  obtain ⟨n, o⟩ := p
  cases o with
  | none => rfl
  | some t => exact List.length_map _
theorem sum_cnt : ∀ l : List Sn, (l.map fun p => ((cnt p : Nat) : Int)).sum = ((sgs l).length : Nat)
  | [] => rfl
  | p :: l => by
    rw [List.map_cons, List.sum_cons, sum_cnt l, sgs_cons, List.length_append, sgs1_len]
    omega
theorem gSn {i j : Nat} {p : Sn} {ρ : DL.Env} : gTupM 2 (gConsM (gSet i) (gConsM (gSet j) gNilM)) (sn p) ρ = .ok ((ρ.set i (some (mS p.1))).set j (some (.im (sv p.2)))) := rfl
theorem isN_S (x : Str) : oIsN (mS x) mN = .ok (mB false) := rfl
theorem loose_ok (C : Addr) {fs : Fs} {since : List Sn} (h : ∀ p ∈ since, SnOk p) (hl : since.length ≤ 100000) : Disk_loose_f C [ob C fs since] = .ok (mI ((sgs since).length : Nat)) := by
  have h1 := fld_since C fs since
  unfold Disk_loose_f defP Disk_loose_b
  rw [if_pos (show [ob C fs since].length = 1 from rfl), retS_eq]
  rw [lcM_map (l := since) sn (fun p => mI ((cnt p : Nat) : Int))]
  · have e : since.map (fun p => mI ((cnt p : Nat) : Int)) = (since.map fun p => ((cnt p : Nat) : Int)).map mI := by rw [List.map_map]; rfl
    rw [e]
    simp only [↓seqS_eq, ↓ifS_eq, ↓setS_eq, ↓retS_eq, ↓augItL_eq, ↓plS2_eq, augK1_l, augK2_i, augK3_s, ↓plX_eq, ↓dropX_eq, ↓setX_eq, ↓retX_eq, ↓augS_eq, ↓parS_eq, ↓asgS_eq, ↓rIf_eq, ↓rOr_eq, ↓vAnd_eq, seqK_nx, seqK_rt, seqK_bk, setK_eq, ifK_t, ifK_f, retK_eq, rIfK_t, rIfK_f, rOrK_t, rOrK_f, R.ok_bind, R.no_bind, getV_0, getV_s, List.set_cons_zero, List.set_cons_succ, ixM_lst, atI_0, atI_1, atI_2, atI_3, ofO_some, oEq_ii, oNe_ii, oGt_ii, oGe_ii, oLt_ii, oLe_ii, oAdd_ii, oAddI_ii, oSub_ii, asB_ok, intR_ok, asIm_ok, asI_ok, cutM_ints, setItL_0, setItL_1, setItL_2, setItL_3, subM_nil, updM_nil, env0, List.map_cons, List.map_nil, List.length_cons, List.length_nil, List.cons_append, List.nil_append, decide_true, decide_false, intM_int, mLst_one, Nat.zero_add, Nat.reduceAdd, Nat.reduceSub, List.replicate_succ, List.replicate_zero, if_true, if_false, wipeE_eq, wipeR_nil, wipeR_cons, List.contains_cons, List.contains_nil, Nat.reduceBEq, Bool.or_true, Bool.true_or, Bool.or_false, Bool.false_or, cond_true, cond_false, sum_ints, sum_cnt, retF]
  · simp only [↓seqS_eq, ↓ifS_eq, ↓setS_eq, ↓retS_eq, ↓augItL_eq, ↓plS2_eq, augK1_l, augK2_i, augK3_s, ↓plX_eq, ↓dropX_eq, ↓setX_eq, ↓retX_eq, ↓augS_eq, ↓parS_eq, ↓asgS_eq, ↓rIf_eq, ↓rOr_eq, ↓vAnd_eq, seqK_nx, seqK_rt, seqK_bk, setK_eq, ifK_t, ifK_f, retK_eq, rIfK_t, rIfK_f, rOrK_t, rOrK_f, R.ok_bind, R.no_bind, getV_0, getV_s, List.set_cons_zero, List.set_cons_succ, ixM_lst, atI_0, atI_1, atI_2, atI_3, ofO_some, oEq_ii, oNe_ii, oGt_ii, oGe_ii, oLt_ii, oLe_ii, oAdd_ii, oAddI_ii, oSub_ii, asB_ok, intR_ok, asIm_ok, asI_ok, cutM_ints, setItL_0, setItL_1, setItL_2, setItL_3, subM_nil, updM_nil, env0, List.map_cons, List.map_nil, List.length_cons, List.length_nil, List.cons_append, List.nil_append, decide_true, decide_false, intM_int, mLst_one, Nat.zero_add, Nat.reduceAdd, Nat.reduceSub, List.replicate_succ, List.replicate_zero, if_true, if_false, wipeE_eq, wipeR_nil, wipeR_cons, List.contains_cons, List.contains_nil, Nat.reduceBEq, Bool.or_true, Bool.true_or, Bool.or_false, Bool.false_or, cond_true, cond_false, h1, items_lst]
  · exact sz hl
  · intro p hp
    refine ⟨_, gSn, rfl, ?_⟩
    obtain ⟨n, o⟩ := p
    cases o with
    | none => simp only [↓seqS_eq, ↓ifS_eq, ↓setS_eq, ↓retS_eq, ↓augItL_eq, ↓plS2_eq, augK1_l, augK2_i, augK3_s, ↓plX_eq, ↓dropX_eq, ↓setX_eq, ↓retX_eq, ↓augS_eq, ↓parS_eq, ↓asgS_eq, ↓rIf_eq, ↓rOr_eq, ↓vAnd_eq, seqK_nx, seqK_rt, seqK_bk, setK_eq, ifK_t, ifK_f, retK_eq, rIfK_t, rIfK_f, rOrK_t, rOrK_f, R.ok_bind, R.no_bind, getV_0, getV_s, List.set_cons_zero, List.set_cons_succ, ixM_lst, atI_0, atI_1, atI_2, atI_3, ofO_some, oEq_ii, oNe_ii, oGt_ii, oGe_ii, oLt_ii, oLe_ii, oAdd_ii, oAddI_ii, oSub_ii, asB_ok, intR_ok, asIm_ok, asI_ok, cutM_ints, setItL_0, setItL_1, setItL_2, setItL_3, subM_nil, updM_nil, env0, List.map_cons, List.map_nil, List.length_cons, List.length_nil, List.cons_append, List.nil_append, decide_true, decide_false, intM_int, mLst_one, Nat.zero_add, Nat.reduceAdd, Nat.reduceSub, List.replicate_succ, List.replicate_zero, if_true, if_false, wipeE_eq, wipeR_nil, wipeR_cons, List.contains_cons, List.contains_nil, Nat.reduceBEq, Bool.or_true, Bool.true_or, Bool.or_false, Bool.false_or, cond_true, cond_false, sv, isN_N, cnt]; rfl
    | some t =>
      have := ((h _ hp).2 t rfl).2
      have l1 := len_S (a := t) (sz (by omega))
      simp only [↓seqS_eq, ↓ifS_eq, ↓setS_eq, ↓retS_eq, ↓augItL_eq, ↓plS2_eq, augK1_l, augK2_i, augK3_s, ↓plX_eq, ↓dropX_eq, ↓setX_eq, ↓retX_eq, ↓augS_eq, ↓parS_eq, ↓asgS_eq, ↓rIf_eq, ↓rOr_eq, ↓vAnd_eq, seqK_nx, seqK_rt, seqK_bk, setK_eq, ifK_t, ifK_f, retK_eq, rIfK_t, rIfK_f, rOrK_t, rOrK_f, R.ok_bind, R.no_bind, getV_0, getV_s, List.set_cons_zero, List.set_cons_succ, ixM_lst, atI_0, atI_1, atI_2, atI_3, ofO_some, oEq_ii, oNe_ii, oGt_ii, oGe_ii, oLt_ii, oLe_ii, oAdd_ii, oAddI_ii, oSub_ii, asB_ok, intR_ok, asIm_ok, asI_ok, cutM_ints, setItL_0, setItL_1, setItL_2, setItL_3, subM_nil, updM_nil, env0, List.map_cons, List.map_nil, List.length_cons, List.length_nil, List.cons_append, List.nil_append, decide_true, decide_false, intM_int, mLst_one, Nat.zero_add, Nat.reduceAdd, Nat.reduceSub, List.replicate_succ, List.replicate_zero, if_true, if_false, wipeE_eq, wipeR_nil, wipeR_cons, List.contains_cons, List.contains_nil, Nat.reduceBEq, Bool.or_true, Bool.true_or, Bool.or_false, Bool.false_or, cond_true, cond_false, sv, isN_S, l1, cnt]
theorem min_ok (i j : Nat) : min2M [mI (i : Int), mI (j : Int)] = .ok (mI ((min i j : Nat) : Int)) := by
  show R.ok (M.im (.int (if (j : Int) < (i : Int) then (j : Int) else (i : Int)))) = _
  by_cases h : j < i
  · rw [if_pos (by omega), Nat.min_eq_right (by omega)]
  · rw [if_neg (by omega), Nat.min_eq_left (by omega)]
theorem done_loop {fb : DL.Env → R Fl} {a b : Option M}
    (h0 : ∀ (fs : Fs) (x y : Option M), fb [a, b, some (D fs), some (mI 0), x, y] = .ok (.bk [a, b, some (D fs), some (mI 0), x, y]))
    (hn : ∀ (fs : Fs) (m : Nat) (n : Str), fb [a, b, some (D fs), some (mI ((m + 1 : Nat) : Int)), some (mS n), some mN] = .ok (.nx [a, b, some (D (drop fs n)), some (mI (m : Int)), some (mS n), some mN]))
    (hs : ∀ (fs : Fs) (m : Nat) (n : Str) (t : List Nat), FsOk 90000 fs → t.length ≤ 100 → fb [a, b, some (D fs), some (mI ((m + 1 : Nat) : Int)), some (mS n), some (mS (S t))] = .ok (.nx [a, b, some (D (put fs n (get fs n ++ t.take (m + 1)))), some (mI ((m + 1 - t.length : Nat) : Int)), some (mS n), some (mS (S t))])) :
    ∀ {l : List Sn} {k m : Nat} {fs : Fs} {o1 o2 : Option M}, FsOk k fs → (∀ p ∈ l, SnOk p) → k + 2 * (sgs l).length ≤ 90000 →
    ∃ m' o3 o4, forR (gTupM 2 (gConsM (gSet 4) (gConsM (gSet 5) gNilM))) fb (l.map sn) [a, b, some (D fs), some (mI (m : Nat)), o1, o2] = .ok (.nx [a, b, some (D (((sgs l).take m).foldl step1 fs)), m', o3, o4])
  | [], _, m, fs, o1, o2, _, _, _ => ⟨some (mI (m : Nat)), o1, o2, by rw [show sgs [] = [] from rfl, List.take_nil]; rfl⟩
  | p :: l, k, m, fs, o1, o2, h, hl, hk => by
    obtain ⟨n, o⟩ := p
    have hp := hl _ (List.mem_cons_self ..)
    have hl' : ∀ p ∈ l, SnOk p := fun q hq => hl q (List.mem_cons_of_mem _ hq)
    rw [sgs_cons, List.length_append] at hk
    have e : ∀ x : R Fl, (fb [a, b, some (D fs), some (mI (m : Nat)), some (mS n), some (.im (sv o))]) = x → forR (gTupM 2 (gConsM (gSet 4) (gConsM (gSet 5) gNilM))) fb (List.map sn ((n, o) :: l)) [a, b, some (D fs), some (mI (m : Nat)), o1, o2] = (x >>= fun o => match o with
        | .nx ρ2 => forR (gTupM 2 (gConsM (gSet 4) (gConsM (gSet 5) gNilM))) fb (l.map sn) ρ2
        | .ct ρ2 => forR (gTupM 2 (gConsM (gSet 4) (gConsM (gSet 5) gNilM))) fb (l.map sn) ρ2
        | .bk ρ2 => .ok (.nx ρ2)
        | .rt v ρ2 => .ok (.rt v ρ2)) := fun x hx => by
      subst hx
      rfl
    cases m with
    | zero =>
      refine ⟨some (mI 0), some (mS n), some (.im (sv o)), ?_⟩
      rw [e _ (h0 fs _ _), List.take_zero]
      rfl
    | succ m =>
      cases o with
      | none =>
        have hf : FsOk (k + 2) (drop fs n) := by
          have := h.step (p := (n, [])) ⟨hp.1, Nat.zero_le _⟩
          exact this
        rw [show (sgs1 (n, none)).length = 1 from rfl] at hk
        obtain ⟨m', o3, o4, q⟩ := done_loop h0 hn hs (l := l) (m := m) (o1 := some (mS n)) (o2 := some mN) hf hl' (by omega)
        refine ⟨m', o3, o4, ?_⟩
        rw [e _ (hn fs m n)]
        rw [sgs_cons]
        exact q
      | some t =>
        obtain ⟨ht, ht2⟩ := hp.2 t rfl
        have hx : ((sgs1 (n, some t)).take (m + 1)).foldl step1 fs = put fs n (get fs n ++ t.take (m + 1)) := by
          rw [show (sgs1 (n, some t)).take (m + 1) = (t.take (m + 1)).map fun c => ((n, [c]) : Sg) from (List.map_take ..).symm]
          exact fold_put (by
            cases t with
            | nil => exact absurd rfl ht
            | cons c t => simp)
        have hf : FsOk (k + 2 * ((sgs1 (n, some t)).take (m + 1)).length) (put fs n (get fs n ++ t.take (m + 1))) := by
          rw [← hx]
          exact h.fold fun q hq => sgs1_ok hp q (List.mem_of_mem_take hq)
        have hlen : ((sgs1 (n, some t)).take (m + 1)).length ≤ (sgs1 (n, some t)).length := by rw [List.length_take]; omega
        obtain ⟨m', o3, o4, q⟩ := done_loop h0 hn hs (l := l) (m := m + 1 - t.length) (o1 := some (mS n)) (o2 := some (mS (S t))) hf hl' (by omega)
        refine ⟨m', o3, o4, ?_⟩
        rw [e _ (hs fs m n t (h.mono (by omega)) ht2), sgs_cons, List.take_append, List.foldl_append, hx, sgs1_len]
        exact q
theorem done_ok (C : Addr) {k m : Nat} {fs : Fs} {since : List Sn} (h : FsOk k fs) (hl : ∀ p ∈ since, SnOk p) (hk : k + 2 * (sgs since).length ≤ 90000) : Disk_done_f C [ob C fs since, mI (m : Nat)] = .ok (D (((sgs since).take m).foldl step1 fs)) := by
  have h1 := fld_since C fs since
  have h2 := fld_sure C fs since
  have h3 := dict_D fs
  unfold Disk_done_f defP Disk_done_b
  rw [if_pos (show [ob C fs since, mI (m : Nat)].length = 2 from rfl), seqS_eq, show env0 6 [ob C fs since, mI (m : Nat)] = [some (ob C fs since), some (mI (m : Nat)), none, none, none, none] from rfl]
  have hpar : ∀ (F : DL.Env → R (List M)) (ρ : DL.Env), F ρ = .ok [D fs, mI (m : Nat)] → ρ = [some (ob C fs since), some (mI (m : Nat)), none, none, none, none] → parS [2, 3] F ρ = .ok (.nx [some (ob C fs since), some (mI (m : Nat)), some (D fs), some (mI (m : Nat)), none, none]) := fun F ρ e e2 => by
    subst e2
    unfold parS
    rw [e]
    rfl
  rw [hpar _ _ (by simp only [↓seqS_eq, ↓ifS_eq, ↓setS_eq, ↓retS_eq, ↓augItL_eq, ↓plS2_eq, augK1_l, augK2_i, augK3_s, ↓plX_eq, ↓dropX_eq, ↓setX_eq, ↓retX_eq, ↓augS_eq, ↓parS_eq, ↓asgS_eq, ↓rIf_eq, ↓rOr_eq, ↓vAnd_eq, seqK_nx, seqK_rt, seqK_bk, setK_eq, ifK_t, ifK_f, retK_eq, rIfK_t, rIfK_f, rOrK_t, rOrK_f, R.ok_bind, R.no_bind, getV_0, getV_s, List.set_cons_zero, List.set_cons_succ, ixM_lst, atI_0, atI_1, atI_2, atI_3, ofO_some, oEq_ii, oNe_ii, oGt_ii, oGe_ii, oLt_ii, oLe_ii, oAdd_ii, oAddI_ii, oSub_ii, asB_ok, intR_ok, asIm_ok, asI_ok, cutM_ints, setItL_0, setItL_1, setItL_2, setItL_3, subM_nil, updM_nil, env0, List.map_cons, List.map_nil, List.length_cons, List.length_nil, List.cons_append, List.nil_append, decide_true, decide_false, intM_int, mLst_one, Nat.zero_add, Nat.reduceAdd, Nat.reduceSub, List.replicate_succ, List.replicate_zero, if_true, if_false, wipeE_eq, wipeR_nil, wipeR_cons, List.contains_cons, List.contains_nil, Nat.reduceBEq, Bool.or_true, Bool.true_or, Bool.or_false, Bool.false_or, cond_true, cond_false, h2, h3]) rfl, R.ok_bind, seqK_nx, seqS_eq]
  generalize hfb : seqS (ifS _ _ nextS) (ifS _ _ _) = fb
  have h0 : ∀ (fs' : Fs) (x y : Option M), fb [some (ob C fs since), some (mI (m : Nat)), some (D fs'), some (mI 0), x, y] = .ok (.bk [some (ob C fs since), some (mI (m : Nat)), some (D fs'), some (mI 0), x, y]) := by
    intro fs' x y
    subst hfb
    simp only [↓seqS_eq, ↓ifS_eq, ↓setS_eq, ↓retS_eq, ↓augItL_eq, ↓plS2_eq, augK1_l, augK2_i, augK3_s, ↓plX_eq, ↓dropX_eq, ↓setX_eq, ↓retX_eq, ↓augS_eq, ↓parS_eq, ↓asgS_eq, ↓rIf_eq, ↓rOr_eq, ↓vAnd_eq, seqK_nx, seqK_rt, seqK_bk, setK_eq, ifK_t, ifK_f, retK_eq, rIfK_t, rIfK_f, rOrK_t, rOrK_f, R.ok_bind, R.no_bind, getV_0, getV_s, List.set_cons_zero, List.set_cons_succ, ixM_lst, atI_0, atI_1, atI_2, atI_3, ofO_some, oEq_ii, oNe_ii, oGt_ii, oGe_ii, oLt_ii, oLe_ii, oAdd_ii, oAddI_ii, oSub_ii, asB_ok, intR_ok, asIm_ok, asI_ok, cutM_ints, setItL_0, setItL_1, setItL_2, setItL_3, subM_nil, updM_nil, env0, List.map_cons, List.map_nil, List.length_cons, List.length_nil, List.cons_append, List.nil_append, decide_true, decide_false, intM_int, mLst_one, Nat.zero_add, Nat.reduceAdd, Nat.reduceSub, List.replicate_succ, List.replicate_zero, if_true, if_false, wipeE_eq, wipeR_nil, wipeR_cons, List.contains_cons, List.contains_nil, Nat.reduceBEq, Bool.or_true, Bool.true_or, Bool.or_false, Bool.false_or, cond_true, cond_false]
  have hn : ∀ (fs' : Fs) (j : Nat) (n : Str), fb [some (ob C fs since), some (mI (m : Nat)), some (D fs'), some (mI ((j + 1 : Nat) : Int)), some (mS n), some mN] = .ok (.nx [some (ob C fs since), some (mI (m : Nat)), some (D (drop fs' n)), some (mI (j : Int)), some (mS n), some mN]) := by
    intro fs' j n
    obtain ⟨v, q⟩ := pop_D fs' n
    have q0 : decide (((j + 1 : Nat) : Int) = 0) = false := by rw [decide_eq_false_iff_not]; omega
    subst hfb
    simp only [↓seqS_eq, ↓ifS_eq, ↓setS_eq, ↓retS_eq, ↓augItL_eq, ↓plS2_eq, augK1_l, augK2_i, augK3_s, ↓plX_eq, ↓dropX_eq, ↓setX_eq, ↓retX_eq, ↓augS_eq, ↓parS_eq, ↓asgS_eq, ↓rIf_eq, ↓rOr_eq, ↓vAnd_eq, seqK_nx, seqK_rt, seqK_bk, setK_eq, ifK_t, ifK_f, retK_eq, rIfK_t, rIfK_f, rOrK_t, rOrK_f, R.ok_bind, R.no_bind, getV_0, getV_s, List.set_cons_zero, List.set_cons_succ, ixM_lst, atI_0, atI_1, atI_2, atI_3, ofO_some, oEq_ii, oNe_ii, oGt_ii, oGe_ii, oLt_ii, oLe_ii, oAdd_ii, oAddI_ii, oSub_ii, asB_ok, intR_ok, asIm_ok, asI_ok, cutM_ints, setItL_0, setItL_1, setItL_2, setItL_3, subM_nil, updM_nil, env0, List.map_cons, List.map_nil, List.length_cons, List.length_nil, List.cons_append, List.nil_append, decide_true, decide_false, intM_int, mLst_one, Nat.zero_add, Nat.reduceAdd, Nat.reduceSub, List.replicate_succ, List.replicate_zero, if_true, if_false, wipeE_eq, wipeR_nil, wipeR_cons, List.contains_cons, List.contains_nil, Nat.reduceBEq, Bool.or_true, Bool.true_or, Bool.or_false, Bool.false_or, cond_true, cond_false, q0, nextS, isN_N, q]
    rw [show ((j + 1 : Nat) : Int) - 1 = (j : Int) by omega]
  have hs : ∀ (fs' : Fs) (j : Nat) (n : Str) (t : List Nat), FsOk 90000 fs' → t.length ≤ 100 → fb [some (ob C fs since), some (mI (m : Nat)), some (D fs'), some (mI ((j + 1 : Nat) : Int)), some (mS n), some (mS (S t))] = .ok (.nx [some (ob C fs since), some (mI (m : Nat)), some (D (put fs' n (get fs' n ++ t.take (j + 1)))), some (mI ((j + 1 - t.length : Nat) : Int)), some (mS n), some (mS (S t))]) := by
    intro fs' j n t hf ht
    have q0 : decide (((j + 1 : Nat) : Int) = 0) = false := by rw [decide_eq_false_iff_not]; omega
    have g1 := get2_D fs' n
    have c1 : cutM (mS (S t)) none (some ((j + 1 : Nat) : Int)) = .ok (mS (S (t.take (j + 1)))) := by rw [cutM_S _ _ (by omega), cutA_t]
    have := get_le fs' n
    have := len_big fs'
    have := hf.len
    have a1 := add_S (a := get fs' n) (b := t.take (j + 1)) (by rw [List.length_take]; omega)
    have s1 := set_D (fs := fs') n (get fs' n ++ t.take (j + 1)) (by omega)
    have l1 := len_S (a := t) (sz (by omega))
    have m1 := min_ok (j + 1) t.length
    subst hfb
    simp only [↓seqS_eq, ↓ifS_eq, ↓setS_eq, ↓retS_eq, ↓augItL_eq, ↓plS2_eq, augK1_l, augK2_i, augK3_s, ↓plX_eq, ↓dropX_eq, ↓setX_eq, ↓retX_eq, ↓augS_eq, ↓parS_eq, ↓asgS_eq, ↓rIf_eq, ↓rOr_eq, ↓vAnd_eq, seqK_nx, seqK_rt, seqK_bk, setK_eq, ifK_t, ifK_f, retK_eq, rIfK_t, rIfK_f, rOrK_t, rOrK_f, R.ok_bind, R.no_bind, getV_0, getV_s, List.set_cons_zero, List.set_cons_succ, ixM_lst, atI_0, atI_1, atI_2, atI_3, ofO_some, oEq_ii, oNe_ii, oGt_ii, oGe_ii, oLt_ii, oLe_ii, oAdd_ii, oAddI_ii, oSub_ii, asB_ok, intR_ok, asIm_ok, asI_ok, cutM_ints, setItL_0, setItL_1, setItL_2, setItL_3, subM_nil, updM_nil, env0, List.map_cons, List.map_nil, List.length_cons, List.length_nil, List.cons_append, List.nil_append, decide_true, decide_false, intM_int, mLst_one, Nat.zero_add, Nat.reduceAdd, Nat.reduceSub, List.replicate_succ, List.replicate_zero, if_true, if_false, wipeE_eq, wipeR_nil, wipeR_cons, List.contains_cons, List.contains_nil, Nat.reduceBEq, Bool.or_true, Bool.true_or, Bool.or_false, Bool.false_or, cond_true, cond_false, q0, nextS, isN_S, g1, c1, a1, s1, l1, m1]
    rw [show ((j + 1 : Nat) : Int) - ((min (j + 1) t.length : Nat) : Int) = ((j + 1 - t.length : Nat) : Int) by omega]
  obtain ⟨m', o3, o4, q⟩ := done_loop h0 hn hs (l := since) (m := m) (o1 := none) (o2 := none) h hl hk
  simp only [↓seqS_eq, ↓ifS_eq, ↓setS_eq, ↓retS_eq, ↓augItL_eq, ↓plS2_eq, augK1_l, augK2_i, augK3_s, ↓plX_eq, ↓dropX_eq, ↓setX_eq, ↓retX_eq, ↓augS_eq, ↓parS_eq, ↓asgS_eq, ↓rIf_eq, ↓rOr_eq, ↓vAnd_eq, seqK_nx, seqK_rt, seqK_bk, setK_eq, ifK_t, ifK_f, retK_eq, rIfK_t, rIfK_f, rOrK_t, rOrK_f, R.ok_bind, R.no_bind, getV_0, getV_s, List.set_cons_zero, List.set_cons_succ, ixM_lst, atI_0, atI_1, atI_2, atI_3, ofO_some, oEq_ii, oNe_ii, oGt_ii, oGe_ii, oLt_ii, oLe_ii, oAdd_ii, oAddI_ii, oSub_ii, asB_ok, intR_ok, asIm_ok, asI_ok, cutM_ints, setItL_0, setItL_1, setItL_2, setItL_3, subM_nil, updM_nil, env0, List.map_cons, List.map_nil, List.length_cons, List.length_nil, List.cons_append, List.nil_append, decide_true, decide_false, intM_int, mLst_one, Nat.zero_add, Nat.reduceAdd, Nat.reduceSub, List.replicate_succ, List.replicate_zero, if_true, if_false, wipeE_eq, wipeR_nil, wipeR_cons, List.contains_cons, List.contains_nil, Nat.reduceBEq, Bool.or_true, Bool.true_or, Bool.or_false, Bool.false_or, cond_true, cond_false, forS, pureX, h1, items_lst, q, wipeO_nx, retF]
end DL.K52
/-! LT13: the disk's other methods. -/
namespace DL.K52
open PySem PySem.Spec PyProof.Rows L2 DL SX
def all (fs : Fs) (since : List Sn) : Fs := (sgs since).foldl step1 fs
/-- a disk as the law makes it -/
structure DkOk (k : Nat) (fs : Fs) (since : List Sn) : Prop where
  fs : FsOk k fs
  sn : ∀ p ∈ since, SnOk p
  len : k + 2 * (sgs since).length ≤ 90000
theorem SnOk.one {p : Sn} (h : SnOk p) : 1 ≤ (sgs1 p).length := by
  rw [sgs1_len]
  obtain ⟨n, o⟩ := p
  cases o with
  | none => exact Nat.le_refl _
  | some t =>
    have := (h.2 t rfl).1
    exact List.length_pos_iff.mpr this
theorem sns_len : ∀ {l : List Sn}, (∀ p ∈ l, SnOk p) → l.length ≤ (sgs l).length
  | [], _ => Nat.le_refl _
  | p :: l, h => by
    have := sns_len fun q hq => h q (List.mem_cons_of_mem _ hq)
    have := (h p (List.mem_cons_self ..)).one
    rw [sgs_cons, List.length_append, List.length_cons]
    omega
section
variable {k : Nat} {fs : Fs} {since : List Sn} (C : Addr) (h : DkOk k fs since)
include h
theorem loose' : Disk_loose_f C [ob C fs since] = .ok (mI ((sgs since).length : Nat)) := loose_ok C h.sn (by have := sns_len h.sn; have := h.len; omega)
theorem done' (m : Nat) : Disk_done_f C [ob C fs since, mI (m : Nat)] = .ok (D (((sgs since).take m).foldl step1 fs)) := done_ok C h.fs h.sn h.len
theorem files' : Disk_files_f C [ob C fs since] = .ok (D (all fs since)) := by
  have h1 := loose' C h
  have h2 := done' C h (sgs since).length
  rw [List.take_length] at h2
  have h3 := is_done C fs since
  have h4 := is_loose C fs since
  unfold Disk_files_f defP Disk_files_b
  rw [if_pos (show [ob C fs since].length = 1 from rfl)]
  simp only [↓seqS_eq, ↓ifS_eq, ↓setS_eq, ↓retS_eq, ↓augItL_eq, ↓plS2_eq, augK1_l, augK2_i, augK3_s, ↓plX_eq, ↓dropX_eq, ↓setX_eq, ↓retX_eq, ↓augS_eq, ↓parS_eq, ↓asgS_eq, ↓rIf_eq, ↓rOr_eq, ↓vAnd_eq, seqK_nx, seqK_rt, seqK_bk, setK_eq, ifK_t, ifK_f, retK_eq, rIfK_t, rIfK_f, rOrK_t, rOrK_f, R.ok_bind, R.no_bind, getV_0, getV_s, List.set_cons_zero, List.set_cons_succ, ixM_lst, atI_0, atI_1, atI_2, atI_3, ofO_some, oEq_ii, oNe_ii, oGt_ii, oGe_ii, oLt_ii, oLe_ii, oAdd_ii, oAddI_ii, oSub_ii, asB_ok, intR_ok, asIm_ok, asI_ok, cutM_ints, setItL_0, setItL_1, setItL_2, setItL_3, subM_nil, updM_nil, env0, List.map_cons, List.map_nil, List.length_cons, List.length_nil, List.cons_append, List.nil_append, decide_true, decide_false, intM_int, mLst_one, Nat.zero_add, Nat.reduceAdd, Nat.reduceSub, List.replicate_succ, List.replicate_zero, if_true, if_false, wipeE_eq, wipeR_nil, wipeR_cons, List.contains_cons, List.contains_nil, Nat.reduceBEq, Bool.or_true, Bool.true_or, Bool.or_false, Bool.false_or, cond_true, cond_false, h1, h2, h3, h4, retF]
  rfl
theorem all_ok : FsOk 90000 (all fs since) := (h.fs.fold (sgs_ok h.sn)).mono h.len
theorem names' : Disk_names_f C [ob C fs since] = .ok (mT ((sortS (nms (all fs since))).map I.str)) := by
  have h1 := files' C h
  have h2 := is_files C fs since
  have h3 := sorted_D (all_ok h)
  have h4 := tuple_strs (sortS (nms (all fs since)))
  unfold Disk_names_f defP Disk_names_b
  rw [if_pos (show [ob C fs since].length = 1 from rfl)]
  simp only [↓seqS_eq, ↓ifS_eq, ↓setS_eq, ↓retS_eq, ↓augItL_eq, ↓plS2_eq, augK1_l, augK2_i, augK3_s, ↓plX_eq, ↓dropX_eq, ↓setX_eq, ↓retX_eq, ↓augS_eq, ↓parS_eq, ↓asgS_eq, ↓rIf_eq, ↓rOr_eq, ↓vAnd_eq, seqK_nx, seqK_rt, seqK_bk, setK_eq, ifK_t, ifK_f, retK_eq, rIfK_t, rIfK_f, rOrK_t, rOrK_f, R.ok_bind, R.no_bind, getV_0, getV_s, List.set_cons_zero, List.set_cons_succ, ixM_lst, atI_0, atI_1, atI_2, atI_3, ofO_some, oEq_ii, oNe_ii, oGt_ii, oGe_ii, oLt_ii, oLe_ii, oAdd_ii, oAddI_ii, oSub_ii, asB_ok, intR_ok, asIm_ok, asI_ok, cutM_ints, setItL_0, setItL_1, setItL_2, setItL_3, subM_nil, updM_nil, env0, List.map_cons, List.map_nil, List.length_cons, List.length_nil, List.cons_append, List.nil_append, decide_true, decide_false, intM_int, mLst_one, Nat.zero_add, Nat.reduceAdd, Nat.reduceSub, List.replicate_succ, List.replicate_zero, if_true, if_false, wipeE_eq, wipeR_nil, wipeR_cons, List.contains_cons, List.contains_nil, Nat.reduceBEq, Bool.or_true, Bool.true_or, Bool.or_false, Bool.false_or, cond_true, cond_false, h1, h2, h3, h4, retF]
theorem text' (n : Str) : Disk_text_f C [ob C fs since, mS n] = .ok (mS (S (DL.K52.get (all fs since) n))) := by
  have h1 := files' C h
  have h2 := is_files C fs since
  have h3 := get2_D (all fs since) n
  unfold Disk_text_f defP Disk_text_b
  rw [if_pos (show [ob C fs since, mS n].length = 2 from rfl)]
  simp only [↓seqS_eq, ↓ifS_eq, ↓setS_eq, ↓retS_eq, ↓augItL_eq, ↓plS2_eq, augK1_l, augK2_i, augK3_s, ↓plX_eq, ↓dropX_eq, ↓setX_eq, ↓retX_eq, ↓augS_eq, ↓parS_eq, ↓asgS_eq, ↓rIf_eq, ↓rOr_eq, ↓vAnd_eq, seqK_nx, seqK_rt, seqK_bk, setK_eq, ifK_t, ifK_f, retK_eq, rIfK_t, rIfK_f, rOrK_t, rOrK_f, R.ok_bind, R.no_bind, getV_0, getV_s, List.set_cons_zero, List.set_cons_succ, ixM_lst, atI_0, atI_1, atI_2, atI_3, ofO_some, oEq_ii, oNe_ii, oGt_ii, oGe_ii, oLt_ii, oLe_ii, oAdd_ii, oAddI_ii, oSub_ii, asB_ok, intR_ok, asIm_ok, asI_ok, cutM_ints, setItL_0, setItL_1, setItL_2, setItL_3, subM_nil, updM_nil, env0, List.map_cons, List.map_nil, List.length_cons, List.length_nil, List.cons_append, List.nil_append, decide_true, decide_false, intM_int, mLst_one, Nat.zero_add, Nat.reduceAdd, Nat.reduceSub, List.replicate_succ, List.replicate_zero, if_true, if_false, wipeE_eq, wipeR_nil, wipeR_cons, List.contains_cons, List.contains_nil, Nat.reduceBEq, Bool.or_true, Bool.true_or, Bool.or_false, Bool.false_or, cond_true, cond_false, h1, h2, h3, retF]
theorem eq' {k2 : Nat} {fs2 : Fs} {since2 : List Sn} (h' : DkOk k2 fs2 since2) : Disk___eq___f C [ob C fs since, ob C fs2 since2] = oEq (D (all fs since)) (D (all fs2 since2)) := by
  have h1 := files' C h
  have h2 := is_files C fs since
  have h3 := files' C h'
  have h4 := is_files C fs2 since2
  have h5 : isiM C (ob C fs2 since2) = .ok (mB true) := if_pos rfl
  unfold Disk___eq___f defP Disk___eq___b
  rw [if_pos (show [ob C fs since, ob C fs2 since2].length = 2 from rfl)]
  simp only [↓seqS_eq, ↓ifS_eq, ↓setS_eq, ↓retS_eq, ↓augItL_eq, ↓plS2_eq, augK1_l, augK2_i, augK3_s, ↓plX_eq, ↓dropX_eq, ↓setX_eq, ↓retX_eq, ↓augS_eq, ↓parS_eq, ↓asgS_eq, ↓rIf_eq, ↓rOr_eq, ↓vAnd_eq, seqK_nx, seqK_rt, seqK_bk, setK_eq, ifK_t, ifK_f, retK_eq, rIfK_t, rIfK_f, rOrK_t, rOrK_f, R.ok_bind, R.no_bind, getV_0, getV_s, List.set_cons_zero, List.set_cons_succ, ixM_lst, atI_0, atI_1, atI_2, atI_3, ofO_some, oEq_ii, oNe_ii, oGt_ii, oGe_ii, oLt_ii, oLe_ii, oAdd_ii, oAddI_ii, oSub_ii, asB_ok, intR_ok, asIm_ok, asI_ok, cutM_ints, setItL_0, setItL_1, setItL_2, setItL_3, subM_nil, updM_nil, env0, List.map_cons, List.map_nil, List.length_cons, List.length_nil, List.cons_append, List.nil_append, decide_true, decide_false, intM_int, mLst_one, Nat.zero_add, Nat.reduceAdd, Nat.reduceSub, List.replicate_succ, List.replicate_zero, if_true, if_false, wipeE_eq, wipeR_nil, wipeR_cons, List.contains_cons, List.contains_nil, Nat.reduceBEq, Bool.or_true, Bool.true_or, Bool.or_false, Bool.false_or, cond_true, cond_false, h1, h2, h3, h4, h5]
  cases oEq (D (all fs since)) (D (all fs2 since2)) <;> rfl
theorem eq3 : Disk___eq___f C [ob C fs since, mI 3] = .ok (mB false) := by
  have h5 : isiM C (mI 3) = .ok (mB false) := rfl
  unfold Disk___eq___f defP Disk___eq___b
  rw [if_pos (show [ob C fs since, mI 3].length = 2 from rfl)]
  simp only [↓seqS_eq, ↓ifS_eq, ↓setS_eq, ↓retS_eq, ↓augItL_eq, ↓plS2_eq, augK1_l, augK2_i, augK3_s, ↓plX_eq, ↓dropX_eq, ↓setX_eq, ↓retX_eq, ↓augS_eq, ↓parS_eq, ↓asgS_eq, ↓rIf_eq, ↓rOr_eq, ↓vAnd_eq, seqK_nx, seqK_rt, seqK_bk, setK_eq, ifK_t, ifK_f, retK_eq, rIfK_t, rIfK_f, rOrK_t, rOrK_f, R.ok_bind, R.no_bind, getV_0, getV_s, List.set_cons_zero, List.set_cons_succ, ixM_lst, atI_0, atI_1, atI_2, atI_3, ofO_some, oEq_ii, oNe_ii, oGt_ii, oGe_ii, oLt_ii, oLe_ii, oAdd_ii, oAddI_ii, oSub_ii, asB_ok, intR_ok, asIm_ok, asI_ok, cutM_ints, setItL_0, setItL_1, setItL_2, setItL_3, subM_nil, updM_nil, env0, List.map_cons, List.map_nil, List.length_cons, List.length_nil, List.cons_append, List.nil_append, decide_true, decide_false, intM_int, mLst_one, Nat.zero_add, Nat.reduceAdd, Nat.reduceSub, List.replicate_succ, List.replicate_zero, if_true, if_false, wipeE_eq, wipeR_nil, wipeR_cons, List.contains_cons, List.contains_nil, Nat.reduceBEq, Bool.or_true, Bool.true_or, Bool.or_false, Bool.false_or, cond_true, cond_false, h5, retF]
end
theorem ne2 : ¬ ("its_sure" : Str) = "its_since" := by decide +kernel
theorem ne3 : ¬ ("its_since" : Str) = "its_sure" := by decide +kernel
theorem fldS_sure (C : Addr) (fs gs : Fs) (since : List Sn) : fldS C "its_sure" (ob C fs since) (D gs) = .ok (ob C gs since) := by
  unfold fldS ob
  simp only [if_true, List.length_cons, List.length_nil, putM]
  rfl
theorem fldS_since (C : Addr) (fs : Fs) (since s2 : List Sn) : fldS C "its_since" (ob C fs since) (.lst (s2.map sn)) = .ok (ob C fs s2) := by
  unfold fldS ob
  simp only [if_true, List.length_cons, List.length_nil, putM, ne2, if_false]
  rfl
theorem fldS_0 (C : Addr) (gs : Fs) : fldS C "its_sure" (.obj C []) (D gs) = .ok (.obj C [("its_sure", D gs)]) := by
  unfold fldS
  simp only [if_true, List.length_nil, putM]
  rfl
theorem fldS_1 (C : Addr) (gs : Fs) (s2 : List Sn) : fldS C "its_since" (.obj C [("its_sure", D gs)]) (.lst (s2.map sn)) = .ok (ob C gs s2) := by
  unfold fldS
  simp only [if_true, List.length_cons, List.length_nil, putM, ne2, if_false]
  rfl
theorem unT_2 (x y : M) (h : allIm [x, y] = none) : (mTup [x, y] >>= unT 2) = .ok [x, y] := by
  show ((match allIm [x, y] with | some k => R.ok (mT k) | none => .ok (.tpm [x, y])) >>= unT 2) = _
  rw [h]
  rfl
theorem mk_ob (C : Addr) : mkM C (Disk___init___f C) [] = .ok (ob C [] []) := by
  have h1 : fldS C "its_sure" (.obj C []) (.dic []) = .ok (.obj C [("its_sure", .dic [])]) := fldS_0 C []
  have h2 : fldS C "its_since" (.obj C [("its_sure", .dic [])]) (.lst []) = .ok (ob C [] []) := fldS_1 C [] []
  have h3 : mTup [.dic [], .lst []] = .ok (.tpm [.dic [], .lst []]) := rfl
  have h4 : unT 2 (.tpm [.dic [], .lst []]) = .ok [.dic [], .lst []] := rfl
  unfold mkM Disk___init___f defX Disk___init___b fld2S
  rw [if_pos (show ([] : List M).length + 1 = 1 from rfl)]
  simp only [↓seqS_eq, ↓ifS_eq, ↓setS_eq, ↓retS_eq, ↓augItL_eq, ↓plS2_eq, augK1_l, augK2_i, augK3_s, ↓plX_eq, ↓dropX_eq, ↓setX_eq, ↓retX_eq, ↓augS_eq, ↓parS_eq, ↓asgS_eq, ↓rIf_eq, ↓rOr_eq, ↓vAnd_eq, seqK_nx, seqK_rt, seqK_bk, setK_eq, ifK_t, ifK_f, retK_eq, rIfK_t, rIfK_f, rOrK_t, rOrK_f, R.ok_bind, R.no_bind, getV_0, getV_s, List.set_cons_zero, List.set_cons_succ, ixM_lst, atI_0, atI_1, atI_2, atI_3, ofO_some, oEq_ii, oNe_ii, oGt_ii, oGe_ii, oLt_ii, oLe_ii, oAdd_ii, oAddI_ii, oSub_ii, asB_ok, intR_ok, asIm_ok, asI_ok, cutM_ints, setItL_0, setItL_1, setItL_2, setItL_3, subM_nil, updM_nil, env0, List.map_cons, List.map_nil, List.length_cons, List.length_nil, List.cons_append, List.nil_append, decide_true, decide_false, intM_int, mLst_one, Nat.zero_add, Nat.reduceAdd, Nat.reduceSub, List.replicate_succ, List.replicate_zero, if_true, if_false, wipeE_eq, wipeR_nil, wipeR_cons, List.contains_cons, List.contains_nil, Nat.reduceBEq, Bool.or_true, Bool.true_or, Bool.or_false, Bool.false_or, cond_true, cond_false, mLst_nil, h3, h4, h1, h2, retFX]
section
variable {k : Nat} {fs : Fs} {since : List Sn} (C : Addr) (h : DkOk k fs since)
include h
theorem crashed' (m : Nat) : Disk_crashed_f C [ob C fs since, mI (m : Nat)] = .ok (ob C (((sgs since).take m).foldl step1 fs) []) := by
  have h1 := done' C h m
  have h2 := is_done C fs since
  have h3 := fldS_sure C [] (((sgs since).take m).foldl step1 fs) []
  unfold Disk_crashed_f defP Disk_crashed_b
  rw [if_pos (show [ob C fs since, mI (m : Nat)].length = 2 from rfl)]
  simp only [↓seqS_eq, ↓ifS_eq, ↓setS_eq, ↓retS_eq, ↓augItL_eq, ↓plS2_eq, augK1_l, augK2_i, augK3_s, ↓plX_eq, ↓dropX_eq, ↓setX_eq, ↓retX_eq, ↓augS_eq, ↓parS_eq, ↓asgS_eq, ↓rIf_eq, ↓rOr_eq, ↓vAnd_eq, seqK_nx, seqK_rt, seqK_bk, setK_eq, ifK_t, ifK_f, retK_eq, rIfK_t, rIfK_f, rOrK_t, rOrK_f, R.ok_bind, R.no_bind, getV_0, getV_s, List.set_cons_zero, List.set_cons_succ, ixM_lst, atI_0, atI_1, atI_2, atI_3, ofO_some, oEq_ii, oNe_ii, oGt_ii, oGe_ii, oLt_ii, oLe_ii, oAdd_ii, oAddI_ii, oSub_ii, asB_ok, intR_ok, asIm_ok, asI_ok, cutM_ints, setItL_0, setItL_1, setItL_2, setItL_3, subM_nil, updM_nil, env0, List.map_cons, List.map_nil, List.length_cons, List.length_nil, List.cons_append, List.nil_append, decide_true, decide_false, intM_int, mLst_one, Nat.zero_add, Nat.reduceAdd, Nat.reduceSub, List.replicate_succ, List.replicate_zero, if_true, if_false, wipeE_eq, wipeR_nil, wipeR_cons, List.contains_cons, List.contains_nil, Nat.reduceBEq, Bool.or_true, Bool.true_or, Bool.or_false, Bool.false_or, cond_true, cond_false, mk_ob, plS, h1, h2, h3, retF]
theorem sync' : Disk_sync_f C (ob C fs since) [] = .ok (mN, ob C (all fs since) []) := by
  have h1 := files' C h
  have h2 := is_files C fs since
  have h3 : mTup [D (all fs since), .lst []] = .ok (.tpm [D (all fs since), .lst []]) := rfl
  have h4 : unT 2 (.tpm [D (all fs since), .lst []]) = .ok [D (all fs since), .lst []] := rfl
  have h5 := fldS_sure C fs (all fs since) since
  have h6 : fldS C "its_since" (ob C (all fs since) since) (.lst []) = .ok (ob C (all fs since) []) := fldS_since C (all fs since) since []
  unfold Disk_sync_f defX Disk_sync_b fld2S
  rw [if_pos (show ([] : List M).length + 1 = 1 from rfl)]
  simp only [↓seqS_eq, ↓ifS_eq, ↓setS_eq, ↓retS_eq, ↓augItL_eq, ↓plS2_eq, augK1_l, augK2_i, augK3_s, ↓plX_eq, ↓dropX_eq, ↓setX_eq, ↓retX_eq, ↓augS_eq, ↓parS_eq, ↓asgS_eq, ↓rIf_eq, ↓rOr_eq, ↓vAnd_eq, seqK_nx, seqK_rt, seqK_bk, setK_eq, ifK_t, ifK_f, retK_eq, rIfK_t, rIfK_f, rOrK_t, rOrK_f, R.ok_bind, R.no_bind, getV_0, getV_s, List.set_cons_zero, List.set_cons_succ, ixM_lst, atI_0, atI_1, atI_2, atI_3, ofO_some, oEq_ii, oNe_ii, oGt_ii, oGe_ii, oLt_ii, oLe_ii, oAdd_ii, oAddI_ii, oSub_ii, asB_ok, intR_ok, asIm_ok, asI_ok, cutM_ints, setItL_0, setItL_1, setItL_2, setItL_3, subM_nil, updM_nil, env0, List.map_cons, List.map_nil, List.length_cons, List.length_nil, List.cons_append, List.nil_append, decide_true, decide_false, intM_int, mLst_one, Nat.zero_add, Nat.reduceAdd, Nat.reduceSub, List.replicate_succ, List.replicate_zero, if_true, if_false, wipeE_eq, wipeR_nil, wipeR_cons, List.contains_cons, List.contains_nil, Nat.reduceBEq, Bool.or_true, Bool.true_or, Bool.or_false, Bool.false_or, cond_true, cond_false, h1, h2, mLst_nil, h3, h4, h5, h6, retFX]
end
theorem look_since (C : Addr) (fs : Fs) (x : M) : ([("its_sure", D fs), ("its_since", x)] : List (Str × M)).lookup ("its_since" : Str) = some x := by
  simp only [List.lookup_cons, ne1, beq_self_eq_true]
theorem plX_ob (C : Addr) (fs : Fs) (since : List Sn) (F : M → R (M × M)) (ρ : DL.Env) : plX 0 [.fld C "its_since"] F (some (ob C fs since) :: ρ) = (F (.lst (since.map sn)) >>= fun x => .ok (x.1, some (.obj C [("its_sure", D fs), ("its_since", x.2)]) :: ρ)) := by
  have h1 : subM (ob C fs since) [.fld C "its_since"] = some (.lst (since.map sn)) := by
    unfold ob subM
    simp only [if_true, look_since C]
    unfold subM
    rfl
  have h2 : ∀ y, updM (ob C fs since) [.fld C "its_since"] y = .obj C [("its_sure", D fs), ("its_since", y)] := fun y => by
    unfold ob updM
    simp only [look_since C, updM_nil, setF, ne1, beq_self_eq_true, if_true, Bool.false_eq_true, if_false]
  unfold plX
  rw [getV_0, R.ok_bind, h1]
  simp only [h2, List.set_cons_zero]
theorem app_sn {l : List Sn} (p : Sn) (h : l.length < 100000) : appM (.lst (l.map sn)) [sn p] = .ok (mN, .lst ((l ++ [p]).map sn)) := by
  rw [List.map_append]
  exact if_pos (Nat.lt_of_lt_of_le (by rw [List.length_map]; exact h) (sz (Nat.le_refl _)))
theorem drop' (C : Addr) (fs : Fs) {since : List Sn} (n : Str) (h : since.length < 100000) : Disk_drop_f C (ob C fs since) [mS n] = .ok (mN, ob C fs (since ++ [(n, none)])) := by
  have h1 := app_sn (n, none) h
  have h2 : mTup [mS n, mN] = .ok (sn (n, none)) := rfl
  unfold Disk_drop_f defX Disk_drop_b
  rw [if_pos (show [mS n].length + 1 = 2 from rfl)]
  simp only [↓seqS_eq, ↓ifS_eq, ↓setS_eq, ↓retS_eq, ↓augItL_eq, ↓plS2_eq, augK1_l, augK2_i, augK3_s, ↓plX_eq, ↓dropX_eq, ↓setX_eq, ↓retX_eq, ↓augS_eq, ↓parS_eq, ↓asgS_eq, ↓rIf_eq, ↓rOr_eq, ↓vAnd_eq, seqK_nx, seqK_rt, seqK_bk, setK_eq, ifK_t, ifK_f, retK_eq, rIfK_t, rIfK_f, rOrK_t, rOrK_f, R.ok_bind, R.no_bind, getV_0, getV_s, List.set_cons_zero, List.set_cons_succ, ixM_lst, atI_0, atI_1, atI_2, atI_3, ofO_some, oEq_ii, oNe_ii, oGt_ii, oGe_ii, oLt_ii, oLe_ii, oAdd_ii, oAddI_ii, oSub_ii, asB_ok, intR_ok, asIm_ok, asI_ok, cutM_ints, setItL_0, setItL_1, setItL_2, setItL_3, subM_nil, updM_nil, env0, List.map_cons, List.map_nil, List.length_cons, List.length_nil, List.cons_append, List.nil_append, decide_true, decide_false, intM_int, mLst_one, Nat.zero_add, Nat.reduceAdd, Nat.reduceSub, List.replicate_succ, List.replicate_zero, if_true, if_false, wipeE_eq, wipeR_nil, wipeR_cons, List.contains_cons, List.contains_nil, Nat.reduceBEq, Bool.or_true, Bool.true_or, Bool.or_false, Bool.false_or, cond_true, cond_false, h2, plX_ob, h1, retFX]
  rfl
theorem add' (C : Addr) (fs : Fs) {since : List Sn} (n : Str) {t : List Nat} (ht : t ≠ []) (h : since.length < 100000) : Disk_add_f C (ob C fs since) [mS n, mS (S t)] = .ok (mN, ob C fs (since ++ [(n, some t)])) := by
  have h1 := app_sn (n, some t) h
  have h2 : mTup [mS n, mS (S t)] = .ok (sn (n, some t)) := rfl
  have h3 := oNe_SS t []
  have h4 : oNe (mS (S t)) (mS "") = .ok (mB true) := by rw [nil_S, h3, decide_eq_false ht]; rfl
  unfold Disk_add_f defX Disk_add_b
  rw [if_pos (show [mS n, mS (S t)].length + 1 = 3 from rfl)]
  simp only [↓seqS_eq, ↓ifS_eq, ↓setS_eq, ↓retS_eq, ↓augItL_eq, ↓plS2_eq, augK1_l, augK2_i, augK3_s, ↓plX_eq, ↓dropX_eq, ↓setX_eq, ↓retX_eq, ↓augS_eq, ↓parS_eq, ↓asgS_eq, ↓rIf_eq, ↓rOr_eq, ↓vAnd_eq, seqK_nx, seqK_rt, seqK_bk, setK_eq, ifK_t, ifK_f, retK_eq, rIfK_t, rIfK_f, rOrK_t, rOrK_f, R.ok_bind, R.no_bind, getV_0, getV_s, List.set_cons_zero, List.set_cons_succ, ixM_lst, atI_0, atI_1, atI_2, atI_3, ofO_some, oEq_ii, oNe_ii, oGt_ii, oGe_ii, oLt_ii, oLe_ii, oAdd_ii, oAddI_ii, oSub_ii, asB_ok, intR_ok, asIm_ok, asI_ok, cutM_ints, setItL_0, setItL_1, setItL_2, setItL_3, subM_nil, updM_nil, env0, List.map_cons, List.map_nil, List.length_cons, List.length_nil, List.cons_append, List.nil_append, decide_true, decide_false, intM_int, mLst_one, Nat.zero_add, Nat.reduceAdd, Nat.reduceSub, List.replicate_succ, List.replicate_zero, if_true, if_false, wipeE_eq, wipeR_nil, wipeR_cons, List.contains_cons, List.contains_nil, Nat.reduceBEq, Bool.or_true, Bool.true_or, Bool.or_false, Bool.false_or, cond_true, cond_false, h2, h4, plX_ob, h1, retFX]
  rfl
end DL.K52
/-! LW: the law in pieces, printed by split.py. -/
namespace DL.K52
open PySem PySem.Spec PyProof.Rows L2 DL SX
def lw0 (C_Disk : Addr) : DL.Env → R Fl :=
  (setS 1 fun ρ => ((getV ρ 0 >>= fun m => R.ok [] >>= fun ms => R.ok (m :: ms)) >>= (_law_bag_f C_Disk)))
def lw1 (C_Disk : Addr) : DL.Env → R Fl :=
  (asgS (gTupM 3 (gConsM (gSet 6) (gConsM (gSet 7) (gConsM (gSet 8) gNilM)))) fun ρ => ((mkM C_Disk (Disk___init___f C_Disk) [] >>= fun m => (R.ok (.dic []) >>= fun m => ((R.ok [] >>= mLst) >>= fun m => R.ok [] >>= fun ms => R.ok (m :: ms)) >>= fun ms => R.ok (m :: ms)) >>= fun ms => R.ok (m :: ms)) >>= mTup))
def lw2_0 (C_Disk : Addr) : DL.Env → R Fl :=
  (asgX (gTupM 2 (gConsM (gSet 13) (gConsM (gSet 14) gNilM))) (fun ρ => (tupX (consX (fun ρ => (fun ρ => (((R.ok (mS "a") >>= fun m => (R.ok (mS "b") >>= fun m => (R.ok (mS "log") >>= fun m => (R.ok (mS "seg") >>= fun m => R.ok [] >>= fun ms => R.ok (m :: ms)) >>= fun ms => R.ok (m :: ms)) >>= fun ms => R.ok (m :: ms)) >>= fun ms => R.ok (m :: ms)) >>= mLst) >>= fun m => R.ok [] >>= fun ms => R.ok (m :: ms)) >>= fun ms => plX 1 [] (fun n => (_law_some_f C_Disk) n ms) ρ) ρ >>= fun x => asI x.1 >>= fun i => R.ok (i, x.2)) (consX (fun ρ => (fun ρ => (R.ok (mI 6) >>= fun m => R.ok [] >>= fun ms => R.ok (m :: ms)) >>= fun ms => plX 1 [] (fun n => (_law_take_f C_Disk) n ms) ρ) ρ >>= fun x => asI x.1 >>= fun i => R.ok (i, x.2)) (fun ρ => R.ok ([], ρ))))) ρ >>= fun x => R.ok (.im x.1, x.2)))
def lw2_1 (C_Disk : Addr) : DL.Env → R Fl :=
  (ifS (fun ρ => (getV ρ 14 >>= fun x => R.ok (mI 0) >>= fun y => oEq x y >>= asB))
  (seqS (dropX (fun ρ => plX 6 [] (fun n => isObj C_Disk "sync" n >>= fun n => (Disk_sync_f C_Disk) n []) ρ))
  (parS [7, 8] fun ρ => (((getV ρ 7 >>= fun m => (getV ρ 8 >>= fun m => R.ok [] >>= fun ms => R.ok (m :: ms)) >>= fun ms => R.ok (m :: ms)) >>= (_law_files_f C_Disk)) >>= fun m => ((R.ok [] >>= mLst) >>= fun m => R.ok [] >>= fun ms => R.ok (m :: ms)) >>= fun ms => R.ok (m :: ms))))
  (ifS (fun ρ => (getV ρ 14 >>= fun x => R.ok (mI 1) >>= fun y => oEq x y >>= asB))
  (ifS (fun ρ => ((getV ρ 13 >>= fun x => ((getV ρ 7 >>= fun m => (getV ρ 8 >>= fun m => R.ok [] >>= fun ms => R.ok (m :: ms)) >>= fun ms => R.ok (m :: ms)) >>= (_law_files_f C_Disk)) >>= fun y => hasKey y x >>= fun r => R.ok (mB r)) >>= asB))
  (seqS (dropX (fun ρ => (getV ρ 13 >>= fun m => R.ok [] >>= fun ms => R.ok (m :: ms)) >>= fun ms => plX 6 [] (fun n => isObj C_Disk "drop" n >>= fun n => (Disk_drop_f C_Disk) n ms) ρ))
  (dropX (fun ρ => ((((getV ρ 13 >>= asIm) >>= fun m => (R.ok (mS "") >>= fun m => R.ok [] >>= fun ms => R.ok (m :: ms)) >>= fun ms => R.ok (m :: ms)) >>= mTup) >>= fun m => R.ok [] >>= fun ms => R.ok (m :: ms)) >>= fun ms => plX 8 [] (fun n => appM n ms) ρ)))
  nextS)
  (seqS (setX 17 (fun ρ => (((R.ok (mS "x") >>= fun m => (R.ok (mS "one two") >>= fun m => (R.ok (mS "3 7") >>= fun m => (R.ok (mS "\n") >>= fun m => (R.ok (mS "zz\n") >>= fun m => R.ok [] >>= fun ms => R.ok (m :: ms)) >>= fun ms => R.ok (m :: ms)) >>= fun ms => R.ok (m :: ms)) >>= fun ms => R.ok (m :: ms)) >>= fun ms => R.ok (m :: ms)) >>= mLst) >>= fun m => R.ok [] >>= fun ms => R.ok (m :: ms)) >>= fun ms => plX 1 [] (fun n => (_law_some_f C_Disk) n ms) ρ))
  (seqS (dropX (fun ρ => (getV ρ 13 >>= fun m => (getV ρ 17 >>= fun m => R.ok [] >>= fun ms => R.ok (m :: ms)) >>= fun ms => R.ok (m :: ms)) >>= fun ms => plX 6 [] (fun n => isObj C_Disk "add" n >>= fun n => (Disk_add_f C_Disk) n ms) ρ))
  (dropX (fun ρ => ((lcM [19] (fun ρ => (getV ρ 17 >>= itemsM)) (gSet 19) yesM (fun ρ => (((getV ρ 13 >>= asIm) >>= fun m => ((getV ρ 19 >>= asIm) >>= fun m => R.ok [] >>= fun ms => R.ok (m :: ms)) >>= fun ms => R.ok (m :: ms)) >>= mTup)) ρ) >>= fun m => R.ok [] >>= fun ms => R.ok (m :: ms)) >>= fun ms => plX 8 [] (fun n => extM n ms) ρ))))))
def lw2_2 (C_Disk : Addr) : DL.Env → R Fl :=
  (setS 9 fun ρ => ((getV ρ 7 >>= fun m => (getV ρ 8 >>= fun m => R.ok [] >>= fun ms => R.ok (m :: ms)) >>= fun ms => R.ok (m :: ms)) >>= (_law_files_f C_Disk)))
def lw2_3 (C_Disk : Addr) : DL.Env → R Fl :=
  (ifS (fun ρ => (((((((getV ρ 6 >>= fun a => isObj C_Disk "names" a >>= fun a => (Disk_names_f C_Disk) [a]) >>= fun m => ((getV ρ 6 >>= fun a => isObj C_Disk "loose" a >>= fun a => (Disk_loose_f C_Disk) [a]) >>= fun m => R.ok [] >>= fun ms => R.ok (m :: ms)) >>= fun ms => R.ok (m :: ms)) >>= mLst) >>= fun m => (((((((getV ρ 9 >>= fun m => R.ok [] >>= fun ms => R.ok (m :: ms)) >>= sortedM) >>= fun m => R.ok [] >>= fun ms => R.ok (m :: ms)) >>= tupleM) >>= fun m => (((getV ρ 8 >>= fun m => R.ok [] >>= fun ms => R.ok (m :: ms)) >>= lenM) >>= fun m => R.ok [] >>= fun ms => R.ok (m :: ms)) >>= fun ms => R.ok (m :: ms)) >>= mLst) >>= fun m => R.ok [] >>= fun ms => R.ok (m :: ms)) >>= fun ms => R.ok (m :: ms)) >>= (_law_alike_f C_Disk)) >>= asB) >>= fun b => R.ok (!b)))
  (retS fun ρ => R.ok (mB false))
  nextS)
def lw2_4 (C_Disk : Addr) : DL.Env → R Fl :=
  (ifS (fun ρ => ((lcM [18] (fun ρ => (((R.ok (mS "a") >>= fun m => (R.ok (mS "b") >>= fun m => (R.ok (mS "log") >>= fun m => (R.ok (mS "seg") >>= fun m => (R.ok (mS "no") >>= fun m => R.ok [] >>= fun ms => R.ok (m :: ms)) >>= fun ms => R.ok (m :: ms)) >>= fun ms => R.ok (m :: ms)) >>= fun ms => R.ok (m :: ms)) >>= fun ms => R.ok (m :: ms)) >>= mTup) >>= itemsM)) (gSet 18) (fun ρ => ((getV ρ 6 >>= fun a => isObj C_Disk "text" a >>= fun a => (getV ρ 18 >>= fun m => R.ok [] >>= fun ms => R.ok (m :: ms)) >>= fun ms => (Disk_text_f C_Disk) (a :: ms)) >>= fun x => (getV ρ 9 >>= fun x => getV ρ 18 >>= fun y => R.ok (mS "") >>= fun z => dGet2 x y z) >>= fun y => oNe x y >>= asB)) (fun ρ => R.ok (mI 1)) ρ) >>= fun x => (R.ok [] >>= mLst) >>= fun y => oNe x y >>= asB))
  (retS fun ρ => R.ok (mB false))
  nextS)
def lw2_5 (C_Disk : Addr) : DL.Env → R Fl :=
  (setX 10 (fun ρ => ((((getV ρ 8 >>= fun m => R.ok [] >>= fun ms => R.ok (m :: ms)) >>= lenM) >>= fun x => R.ok (mI 1) >>= fun y => oAdd x y) >>= fun m => R.ok [] >>= fun ms => R.ok (m :: ms)) >>= fun ms => plX 1 [] (fun n => (_law_take_f C_Disk) n ms) ρ))
def lw2_6 (C_Disk : Addr) : DL.Env → R Fl :=
  (asgS (gTupM 2 (gConsM (gSet 15) (gConsM (gSet 16) gNilM))) fun ρ => (((getV ρ 6 >>= fun a => isObj C_Disk "crashed" a >>= fun a => (getV ρ 10 >>= fun m => R.ok [] >>= fun ms => R.ok (m :: ms)) >>= fun ms => (Disk_crashed_f C_Disk) (a :: ms)) >>= fun m => (((getV ρ 7 >>= fun m => ((getV ρ 8 >>= fun x => R.ok none >>= fun l => (getV ρ 10 >>= fun m => intR m >>= fun i => R.ok (some i)) >>= fun u => cutM x l u) >>= fun m => R.ok [] >>= fun ms => R.ok (m :: ms)) >>= fun ms => R.ok (m :: ms)) >>= (_law_files_f C_Disk)) >>= fun m => R.ok [] >>= fun ms => R.ok (m :: ms)) >>= fun ms => R.ok (m :: ms)) >>= mTup))
def lw2_7 (C_Disk : Addr) : DL.Env → R Fl :=
  (ifS (fun ρ => (rOr (((getV ρ 15 >>= fun a => isObj C_Disk "names" a >>= fun a => (Disk_names_f C_Disk) [a]) >>= fun x => ((((getV ρ 16 >>= fun m => R.ok [] >>= fun ms => R.ok (m :: ms)) >>= sortedM) >>= fun m => R.ok [] >>= fun ms => R.ok (m :: ms)) >>= tupleM) >>= fun y => oNe x y >>= asB)) fun _ => ((lcM [18] (fun ρ => (plM 16 [] ρ >>= wkM .keys)) (gSet 18) (fun ρ => ((getV ρ 15 >>= fun a => isObj C_Disk "text" a >>= fun a => (getV ρ 18 >>= fun m => R.ok [] >>= fun ms => R.ok (m :: ms)) >>= fun ms => (Disk_text_f C_Disk) (a :: ms)) >>= fun x => (getV ρ 16 >>= fun x => getV ρ 18 >>= fun y => dItem x y) >>= fun y => oNe x y >>= asB)) (fun ρ => R.ok (mI 1)) ρ) >>= fun x => (R.ok [] >>= mLst) >>= fun y => oNe x y >>= asB)))
  (retS fun ρ => R.ok (mB false))
  nextS)
def lw2_8 (C_Disk : Addr) : DL.Env → R Fl :=
  (ifS (fun ρ => (rOr (((getV ρ 15 >>= fun x => getV ρ 6 >>= fun y => ownEq C_Disk (Disk___eq___f C_Disk) x y) >>= fun x => (getV ρ 16 >>= fun x => getV ρ 9 >>= fun y => oEq x y) >>= fun y => oNe x y >>= asB)) fun _ => (getV ρ 6 >>= fun x => R.ok (mI 3) >>= fun y => ownEq C_Disk (Disk___eq___f C_Disk) x y >>= asB)))
  (retS fun ρ => R.ok (mB false))
  nextS)
def lw2_b (C_Disk : Addr) : DL.Env → R Fl := seqS (lw2_0 C_Disk) (seqS (lw2_1 C_Disk) (seqS (lw2_2 C_Disk) (seqS (lw2_3 C_Disk) (seqS (lw2_4 C_Disk) (seqS (lw2_5 C_Disk) (seqS (lw2_6 C_Disk) (seqS (lw2_7 C_Disk) (lw2_8 C_Disk))))))))
def lw2 (C_Disk : Addr) : DL.Env → R Fl :=
  forS [2] (fun ρ => (consX (fun ρ => (fun ρ => (((R.ok (mI 14) >>= fun m => (R.ok (mI 24) >>= fun m => R.ok [] >>= fun ms => R.ok (m :: ms)) >>= fun ms => R.ok (m :: ms)) >>= mLst) >>= fun m => R.ok [] >>= fun ms => R.ok (m :: ms)) >>= fun ms => plX 1 [] (fun n => (_law_some_f C_Disk) n ms) ρ) ρ >>= fun x => asI x.1 >>= fun i => R.ok (i, x.2)) (fun ρ => R.ok ([], ρ))) ρ >>= fun x => rng1 (x.1.map .im) >>= fun ms => R.ok (ms, x.2)) (gSet 2) (lw2_b C_Disk)
def lw3 (C_Disk : Addr) : DL.Env → R Fl :=
  (setX 3 (lcX [2] (fun ρ => (consX (opX (pureX fun ρ => R.ok (mI 1) >>= asI) (fun ρ => (fun ρ => (R.ok (mI 4) >>= fun m => R.ok [] >>= fun ms => R.ok (m :: ms)) >>= fun ms => plX 1 [] (fun n => (_law_take_f C_Disk) n ms) ρ) ρ >>= fun x => asI x.1 >>= fun i => R.ok (i, x.2)) oAdd) (fun ρ => R.ok ([], ρ))) ρ >>= fun x => rng1 (x.1.map .im) >>= fun ms => R.ok (ms, x.2)) (gSet 2) yesM (fun ρ => (((R.ok (mS "") >>= fun m => (R.ok (mS "ab") >>= fun m => (R.ok (mS "1 2 3") >>= fun m => (R.ok (mS "a\nb") >>= fun m => (R.ok (mS "9") >>= fun m => (R.ok (mS "12 34 ab\n") >>= fun m => R.ok [] >>= fun ms => R.ok (m :: ms)) >>= fun ms => R.ok (m :: ms)) >>= fun ms => R.ok (m :: ms)) >>= fun ms => R.ok (m :: ms)) >>= fun ms => R.ok (m :: ms)) >>= fun ms => R.ok (m :: ms)) >>= mLst) >>= fun m => R.ok [] >>= fun ms => R.ok (m :: ms)) >>= fun ms => plX 1 [] (fun n => (_law_some_f C_Disk) n ms) ρ)))
def lw4 (C_Disk : Addr) : DL.Env → R Fl :=
  (setS 4 fun ρ => (R.ok (mS "") >>= fun m => ((lcM [17] (fun ρ => (getV ρ 3 >>= itemsM)) (gSet 17) yesM (fun ρ => ((getV ρ 17 >>= fun m => R.ok [] >>= fun ms => R.ok (m :: ms)) >>= (_law_framed_f C_Disk))) ρ) >>= fun m => R.ok [] >>= fun ms => R.ok (m :: ms)) >>= fun ms => joinM m ms))
def lw5 (C_Disk : Addr) : DL.Env → R Fl :=
  (ifS (fun ρ => ((lcM [17] (fun ρ => (getV ρ 3 >>= itemsM)) (gSet 17) yesM (fun ρ => ((getV ρ 17 >>= fun m => R.ok [] >>= fun ms => R.ok (m :: ms)) >>= (framed_f C_Disk))) ρ) >>= fun x => (lcM [17] (fun ρ => (getV ρ 3 >>= itemsM)) (gSet 17) yesM (fun ρ => ((getV ρ 17 >>= fun m => R.ok [] >>= fun ms => R.ok (m :: ms)) >>= (_law_framed_f C_Disk))) ρ) >>= fun y => oNe x y >>= asB))
  (retS fun ρ => R.ok (mB false))
  nextS)
def lw6 (C_Disk : Addr) : DL.Env → R Fl :=
  (ifS (fun ρ => ((((((getV ρ 4 >>= fun m => R.ok [] >>= fun ms => R.ok (m :: ms)) >>= (frames_in_f C_Disk)) >>= fun m => (((((getV ρ 3 >>= fun m => R.ok [] >>= fun ms => R.ok (m :: ms)) >>= tupleM) >>= fun m => (R.ok (mI 0) >>= fun m => R.ok [] >>= fun ms => R.ok (m :: ms)) >>= fun ms => R.ok (m :: ms)) >>= mTup) >>= fun m => R.ok [] >>= fun ms => R.ok (m :: ms)) >>= fun ms => R.ok (m :: ms)) >>= (_law_alike_f C_Disk)) >>= asB) >>= fun b => R.ok (!b)))
  (retS fun ρ => R.ok (mB false))
  nextS)
def lw7_0 (C_Disk : Addr) : DL.Env → R Fl :=
  (ifS (fun ρ => (((((((getV ρ 4 >>= fun x => R.ok none >>= fun l => (getV ρ 5 >>= fun m => intR m >>= fun i => R.ok (some i)) >>= fun u => cutM x l u) >>= fun m => R.ok [] >>= fun ms => R.ok (m :: ms)) >>= (frames_in_f C_Disk)) >>= fun m => ((((getV ρ 4 >>= fun x => R.ok none >>= fun l => (getV ρ 5 >>= fun m => intR m >>= fun i => R.ok (some i)) >>= fun u => cutM x l u) >>= fun m => R.ok [] >>= fun ms => R.ok (m :: ms)) >>= (_law_frames_f C_Disk)) >>= fun m => R.ok [] >>= fun ms => R.ok (m :: ms)) >>= fun ms => R.ok (m :: ms)) >>= (_law_alike_f C_Disk)) >>= asB) >>= fun b => R.ok (!b)))
  (retS fun ρ => R.ok (mB false))
  nextS)
def lw7_b (C_Disk : Addr) : DL.Env → R Fl := lw7_0 C_Disk
def lw7 (C_Disk : Addr) : DL.Env → R Fl :=
  forS [5] (pureX fun ρ => (((((getV ρ 4 >>= fun m => R.ok [] >>= fun ms => R.ok (m :: ms)) >>= lenM) >>= fun x => R.ok (mI 1) >>= fun y => oAdd x y) >>= fun m => R.ok [] >>= fun ms => R.ok (m :: ms)) >>= rng1)) (gSet 5) (lw7_b C_Disk)
def lw8_0 (C_Disk : Addr) : DL.Env → R Fl :=
  (setX 11 (fun ρ => (((getV ρ 4 >>= fun m => R.ok [] >>= fun ms => R.ok (m :: ms)) >>= lenM) >>= fun m => R.ok [] >>= fun ms => R.ok (m :: ms)) >>= fun ms => plX 1 [] (fun n => (_law_take_f C_Disk) n ms) ρ))
def lw8_1 (C_Disk : Addr) : DL.Env → R Fl :=
  (setX 12 (fun ρ => (opX (opX (pureX fun ρ => (getV ρ 4 >>= fun x => R.ok none >>= fun l => (getV ρ 11 >>= fun m => intR m >>= fun i => R.ok (some i)) >>= fun u => cutM x l u) >>= asI) (fun ρ => (fun ρ => (((R.ok (mS "x") >>= fun m => (R.ok (mS "0") >>= fun m => (R.ok (mS " ") >>= fun m => (R.ok (mS "\n") >>= fun m => (R.ok (mS "7") >>= fun m => R.ok [] >>= fun ms => R.ok (m :: ms)) >>= fun ms => R.ok (m :: ms)) >>= fun ms => R.ok (m :: ms)) >>= fun ms => R.ok (m :: ms)) >>= fun ms => R.ok (m :: ms)) >>= mLst) >>= fun m => R.ok [] >>= fun ms => R.ok (m :: ms)) >>= fun ms => plX 1 [] (fun n => (_law_some_f C_Disk) n ms) ρ) ρ >>= fun x => asI x.1 >>= fun i => R.ok (i, x.2)) oAdd) (pureX fun ρ => (getV ρ 4 >>= fun x => ((getV ρ 11 >>= fun x => R.ok (mI 1) >>= fun y => oAdd x y) >>= fun m => intR m >>= fun i => R.ok (some i)) >>= fun l => R.ok none >>= fun u => cutM x l u) >>= asI) oAdd) ρ >>= fun x => R.ok (.im x.1, x.2)))
def lw8_2 (C_Disk : Addr) : DL.Env → R Fl :=
  (ifS (fun ρ => ((((((getV ρ 12 >>= fun m => R.ok [] >>= fun ms => R.ok (m :: ms)) >>= (frames_in_f C_Disk)) >>= fun m => (((getV ρ 12 >>= fun m => R.ok [] >>= fun ms => R.ok (m :: ms)) >>= (_law_frames_f C_Disk)) >>= fun m => R.ok [] >>= fun ms => R.ok (m :: ms)) >>= fun ms => R.ok (m :: ms)) >>= (_law_alike_f C_Disk)) >>= asB) >>= fun b => R.ok (!b)))
  (retS fun ρ => R.ok (mB false))
  nextS)
def lw8_b (C_Disk : Addr) : DL.Env → R Fl := seqS (lw8_0 C_Disk) (seqS (lw8_1 C_Disk) (lw8_2 C_Disk))
def lw8 (C_Disk : Addr) : DL.Env → R Fl :=
  forS [2] (pureX fun ρ => ((R.ok (mI 8) >>= fun m => R.ok [] >>= fun ms => R.ok (m :: ms)) >>= rng1)) (gSet 2) (lw8_b C_Disk)
def lw9 (C_Disk : Addr) : DL.Env → R Fl :=
  (retS fun ρ => R.ok (mB true))
theorem law_b_eq (C_Disk : Addr) : law_b C_Disk = seqS (lw0 C_Disk) (seqS (lw1 C_Disk) (seqS (lw2 C_Disk) (seqS (lw3 C_Disk) (seqS (lw4 C_Disk) (seqS (lw5 C_Disk) (seqS (lw6 C_Disk) (seqS (lw7 C_Disk) (seqS (lw8 C_Disk) (lw9 C_Disk))))))))) := rfl
end DL.K52
/-! LT14: one round of deeds: the deed. -/
namespace DL.K52
open PySem PySem.Spec PyProof.Rows L2 DL SX
def parK (i j : Nat) (ρ : DL.Env) : List M → R Fl
  | [x, y] => .ok (.nx ((ρ.set i (some x)).set j (some y)))
  | _ => .no
theorem parK_2 (i j : Nat) (ρ : DL.Env) (x y : M) : parK i j ρ [x, y] = .ok (.nx ((ρ.set i (some x)).set j (some y))) := rfl
theorem parS_2 (i j : Nat) (f : DL.Env → R (List M)) (ρ : DL.Env) : parS [i, j] f ρ = (f ρ >>= parK i j ρ) := by
  unfold parS
  cases f ρ with
  | ok ms =>
    match ms with
    | [] => rfl
    | [_] => rfl
    | [_, _] => rfl
    | x :: y :: z :: l =>
      have e : ¬ (x :: y :: z :: l).length = [i, j].length := by
        simp only [List.length_cons, List.length_nil]
        omega
      exact (if_neg (t := R.ok (.nx (([i, j].zip (x :: y :: z :: l)).foldl (fun ρ q => ρ.set q.1 (some q.2)) ρ))) e)
  | _ => rfl
theorem S_eta (x : Str) : S x.cps.toList = x := TL.ext_tl rfl
theorem tup_fit : ((2 : Nat) ≤ sizeLine) = True := eq_true (by show 2 ≤ 2 ^ 24; decide)
theorem asgX_eq (g : M → DL.Env → R DL.Env) (f : DL.Env → R (M × DL.Env)) (ρ : DL.Env) : asgX g f ρ = (f ρ >>= fun x => g x.1 x.2 >>= fun ρ' => .ok (.nx ρ')) := rfl
theorem p0 (C : Addr) {b : M} (h : BagOk b) (s o2 d so lo o9 o10 o13 o14 o15 o16 o17 : Option M) : ∃ (n : Str) (w : Int) (b' : M), n ∈ four ∧ BagOk b' ∧
    lw2_0 C [s, some b, o2, none, none, none, d, so, lo, o9, o10, none, none, o13, o14, o15, o16, o17, none, none] = .ok (.nx [s, some b', o2, none, none, none, d, so, lo, o9, o10, none, none, some (mS n), some (mI w), o15, o16, o17, none, none]) := by
  obtain ⟨y, b1, hy, e1, h1⟩ := some_ok (x := .str "a") (l := [.str "b", .str "log", .str "seg"]) C h (by decide)
  obtain ⟨w, b2, e2, _, _, h2⟩ := take_ok (many := 6) C h1 (by decide) (by decide)
  obtain ⟨n, hn, rfl⟩ : ∃ n, n ∈ four ∧ y = .str n := by
    rw [show [I.str "a", .str "b", .str "log", .str "seg"] = four.map I.str from rfl] at hy
    obtain ⟨n, hn, rfl⟩ := List.mem_map.mp hy
    exact ⟨n, hn, rfl⟩
  have e0 : mLst [mS "a", mS "b", mS "log", mS "seg"] = .ok (.lst ([.str "a", .str "b", .str "log", .str "seg"].map M.im)) := rfl
  refine ⟨n, w, b2, hn, h2, ?_⟩
  unfold lw2_0
  simp only [List.map_cons, List.map_nil] at e0 e1
  simp only [↓seqS_eq, ↓ifS_eq, ↓setS_eq, ↓retS_eq, ↓augItL_eq, ↓plS2_eq, augK1_l, augK2_i, augK3_s, ↓plX_eq, ↓dropX_eq, ↓setX_eq, ↓retX_eq, ↓augS_eq, ↓parS_2, parK_2, ↓asgS_eq, ↓rIf_eq, ↓rOr_eq, ↓vAnd_eq, seqK_nx, seqK_rt, seqK_bk, setK_eq, ifK_t, ifK_f, retK_eq, rIfK_t, rIfK_f, rOrK_t, rOrK_f, R.ok_bind, R.no_bind, getV_0, getV_s, List.set_cons_zero, List.set_cons_succ, ixM_lst, atI_0, atI_1, atI_2, atI_3, ofO_some, oEq_ii, oNe_ii, oGt_ii, oGe_ii, oLt_ii, oLe_ii, oAdd_ii, oAddI_ii, oSub_ii, asB_ok, intR_ok, asIm_ok, asI_ok, cutM_ints, setItL_0, setItL_1, setItL_2, setItL_3, subM_nil, updM_nil, env0, List.map_cons, List.map_nil, List.length_cons, List.length_nil, List.cons_append, List.nil_append, decide_true, decide_false, intM_int, mLst_one, Nat.zero_add, Nat.reduceAdd, Nat.reduceSub, List.replicate_succ, List.replicate_zero, if_true, if_false, wipeE_eq, wipeR_nil, wipeR_cons, List.contains_cons, List.contains_nil, Nat.reduceBEq, Bool.or_true, Bool.true_or, Bool.or_false, Bool.false_or, cond_true, cond_false, asgX_eq, tupX, consX, e0, e1, e2, tup_fit, gTup2]
/-- the state of a round -/
structure St (B : Nat) (k : Nat) (fs : Fs) (since : List Sn) : Prop where
  fs : FsOk k fs
  sn : ∀ p ∈ since, SnOk p
  len : k + 2 * (sgs since).length ≤ B
theorem St.dk {B k : Nat} {fs : Fs} {since : List Sn} (h : St B k fs since) (hB : B ≤ 90000) : DkOk k fs since := ⟨h.fs, h.sn, Nat.le_trans h.len hB⟩
theorem St.mono {B B' k : Nat} {fs : Fs} {since : List Sn} (h : St B k fs since) (hB : B ≤ B') : St B' k fs since := ⟨h.fs, h.sn, Nat.le_trans h.len hB⟩
abbrev lo (since : List Sn) : M := .lst ((sgs since).map sg)
theorem files_st (C : Addr) {B k : Nat} {fs : Fs} {since : List Sn} (h : St B k fs since) (hB : B ≤ 90000) : _law_files_f C [D fs, lo since] = .ok (D (all fs since)) := law_files_ok C h.fs (sgs_ok h.sn) (by have := h.len; omega)
theorem deed_sync (C : Addr) {B k : Nat} {fs : Fs} {since : List Sn} (h : St B k fs since) (hB : B ≤ 90000) (s b o2 o9 o10 o13 o15 o16 o17 : Option M) :
    lw2_1 C [s, b, o2, none, none, none, some (ob C fs since), some (D fs), some (lo since), o9, o10, none, none, o13, some (mI 0), o15, o16, o17, none, none] = .ok (.nx [s, b, o2, none, none, none, some (ob C (all fs since) []), some (D (all fs since)), some (lo []), o9, o10, none, none, o13, some (mI 0), o15, o16, o17, none, none]) := by
  have e1 := is_sync C fs since
  have e2 := sync' C (h.dk hB)
  have e3 := files_st C h hB
  unfold lw2_1
  simp only [↓seqS_eq, ↓ifS_eq, ↓setS_eq, ↓retS_eq, ↓augItL_eq, ↓plS2_eq, augK1_l, augK2_i, augK3_s, ↓plX_eq, ↓dropX_eq, ↓setX_eq, ↓retX_eq, ↓augS_eq, ↓parS_2, parK_2, ↓asgS_eq, ↓rIf_eq, ↓rOr_eq, ↓vAnd_eq, seqK_nx, seqK_rt, seqK_bk, setK_eq, ifK_t, ifK_f, retK_eq, rIfK_t, rIfK_f, rOrK_t, rOrK_f, R.ok_bind, R.no_bind, getV_0, getV_s, List.set_cons_zero, List.set_cons_succ, ixM_lst, atI_0, atI_1, atI_2, atI_3, ofO_some, oEq_ii, oNe_ii, oGt_ii, oGe_ii, oLt_ii, oLe_ii, oAdd_ii, oAddI_ii, oSub_ii, asB_ok, intR_ok, asIm_ok, asI_ok, cutM_ints, setItL_0, setItL_1, setItL_2, setItL_3, subM_nil, updM_nil, env0, List.map_cons, List.map_nil, List.length_cons, List.length_nil, List.cons_append, List.nil_append, decide_true, decide_false, intM_int, mLst_one, Nat.zero_add, Nat.reduceAdd, Nat.reduceSub, List.replicate_succ, List.replicate_zero, if_true, if_false, wipeE_eq, wipeR_nil, wipeR_cons, List.contains_cons, List.contains_nil, Nat.reduceBEq, Bool.or_true, Bool.true_or, Bool.or_false, Bool.false_or, cond_true, cond_false, e1, e2, e3, mLst_nil]
  rfl
theorem app_sg {l : List Sg} (p : Sg) (h : l.length < 100000) : appM (.lst (l.map sg)) [sg p] = .ok (mN, .lst ((l ++ [p]).map sg)) := by
  rw [List.map_append]
  exact if_pos (Nat.lt_of_lt_of_le (by rw [List.length_map]; exact h) (sz (Nat.le_refl _)))
theorem ext_sg {l k : List Sg} (h : l.length + k.length ≤ 100000) : extM (.lst (l.map sg)) [.lst (k.map sg)] = .ok (mN, .lst ((l ++ k).map sg)) := by
  rw [List.map_append]
  exact if_pos (sz (by rw [List.length_map, List.length_map]; exact h))
theorem deed_drop (C : Addr) {B k : Nat} {fs : Fs} {since : List Sn} {n : Str} (h : St B k fs since) (hB : B ≤ 90000) (s b o2 o9 o10 o15 o16 o17 : Option M) (hn : (getO (all fs since) n).isSome = true) :
    lw2_1 C [s, b, o2, none, none, none, some (ob C fs since), some (D fs), some (lo since), o9, o10, none, none, some (mS n), some (mI 1), o15, o16, o17, none, none] = .ok (.nx [s, b, o2, none, none, none, some (ob C fs (since ++ [(n, none)])), some (D fs), some (lo (since ++ [(n, none)])), o9, o10, none, none, some (mS n), some (mI 1), o15, o16, o17, none, none]) := by
  have hl := h.len
  have hl2 := sns_len h.sn
  have e1 := is_drop C fs since
  have e2 := drop' C fs (since := since) n (by omega)
  have e3 := files_st C h hB
  have e4 := has_D (all fs since) n
  rw [hn] at e4
  have e5 : appM (lo since) [mT [.str n, .str ""]] = .ok (mN, lo (since ++ [(n, none)])) := by
    have := app_sg (l := sgs since) (n, []) (by omega)
    rw [show (sg (n, [])) = mT [.str n, .str ""] from congrArg (fun z => match z with | .im z => mT [.str n, z] | z => z) nil_S.symm] at this
    rw [this]
    unfold lo
    rw [sgs_add]
    rfl
  have e6 : decide ((1 : Int) = 0) = false := rfl
  unfold lw2_1
  simp only [↓seqS_eq, ↓ifS_eq, ↓setS_eq, ↓retS_eq, ↓augItL_eq, ↓plS2_eq, augK1_l, augK2_i, augK3_s, ↓plX_eq, ↓dropX_eq, ↓setX_eq, ↓retX_eq, ↓augS_eq, ↓parS_2, parK_2, ↓asgS_eq, ↓rIf_eq, ↓rOr_eq, ↓vAnd_eq, seqK_nx, seqK_rt, seqK_bk, setK_eq, ifK_t, ifK_f, retK_eq, rIfK_t, rIfK_f, rOrK_t, rOrK_f, R.ok_bind, R.no_bind, getV_0, getV_s, List.set_cons_zero, List.set_cons_succ, ixM_lst, atI_0, atI_1, atI_2, atI_3, ofO_some, oEq_ii, oNe_ii, oGt_ii, oGe_ii, oLt_ii, oLe_ii, oAdd_ii, oAddI_ii, oSub_ii, asB_ok, intR_ok, asIm_ok, asI_ok, cutM_ints, setItL_0, setItL_1, setItL_2, setItL_3, subM_nil, updM_nil, env0, List.map_cons, List.map_nil, List.length_cons, List.length_nil, List.cons_append, List.nil_append, decide_true, decide_false, intM_int, mLst_one, Nat.zero_add, Nat.reduceAdd, Nat.reduceSub, List.replicate_succ, List.replicate_zero, if_true, if_false, wipeE_eq, wipeR_nil, wipeR_cons, List.contains_cons, List.contains_nil, Nat.reduceBEq, Bool.or_true, Bool.true_or, Bool.or_false, Bool.false_or, cond_true, cond_false, e1, e2, e3, e4, e6, mTup2, e5]
theorem deed_none (C : Addr) {B k : Nat} {fs : Fs} {since : List Sn} {n : Str} (h : St B k fs since) (hB : B ≤ 90000) (s b o2 o9 o10 o15 o16 o17 : Option M) (hn : (getO (all fs since) n).isSome = false) :
    lw2_1 C [s, b, o2, none, none, none, some (ob C fs since), some (D fs), some (lo since), o9, o10, none, none, some (mS n), some (mI 1), o15, o16, o17, none, none] = .ok (.nx [s, b, o2, none, none, none, some (ob C fs since), some (D fs), some (lo since), o9, o10, none, none, some (mS n), some (mI 1), o15, o16, o17, none, none]) := by
  have e3 := files_st C h hB
  have e4 := has_D (all fs since) n
  rw [hn] at e4
  have e6 : decide ((1 : Int) = 0) = false := rfl
  unfold lw2_1
  simp only [↓seqS_eq, ↓ifS_eq, ↓setS_eq, ↓retS_eq, ↓augItL_eq, ↓plS2_eq, augK1_l, augK2_i, augK3_s, ↓plX_eq, ↓dropX_eq, ↓setX_eq, ↓retX_eq, ↓augS_eq, ↓parS_2, parK_2, ↓asgS_eq, ↓rIf_eq, ↓rOr_eq, ↓vAnd_eq, seqK_nx, seqK_rt, seqK_bk, setK_eq, ifK_t, ifK_f, retK_eq, rIfK_t, rIfK_f, rOrK_t, rOrK_f, R.ok_bind, R.no_bind, getV_0, getV_s, List.set_cons_zero, List.set_cons_succ, ixM_lst, atI_0, atI_1, atI_2, atI_3, ofO_some, oEq_ii, oNe_ii, oGt_ii, oGe_ii, oLt_ii, oLe_ii, oAdd_ii, oAddI_ii, oSub_ii, asB_ok, intR_ok, asIm_ok, asI_ok, cutM_ints, setItL_0, setItL_1, setItL_2, setItL_3, subM_nil, updM_nil, env0, List.map_cons, List.map_nil, List.length_cons, List.length_nil, List.cons_append, List.nil_append, decide_true, decide_false, intM_int, mLst_one, Nat.zero_add, Nat.reduceAdd, Nat.reduceSub, List.replicate_succ, List.replicate_zero, if_true, if_false, wipeE_eq, wipeR_nil, wipeR_cons, List.contains_cons, List.contains_nil, Nat.reduceBEq, Bool.or_true, Bool.true_or, Bool.or_false, Bool.false_or, cond_true, cond_false, e3, e4, e6, nextS]
def five : List Str := ["x", "one two", "3 7", "\n", "zz\n"]
theorem five_ok : ∀ x ∈ five, x.cps.toList ≠ [] ∧ x.cps.toList.length ≤ 7 := by
  unfold five
  decide +kernel
theorem deed_add (C : Addr) {B k : Nat} {fs : Fs} {since : List Sn} {n : Str} {w : Int} {b : M} (hb : BagOk b) (h : St B k fs since) (hB : B ≤ 80000) (w0 : w ≠ 0) (w1 : w ≠ 1) (s o2 o9 o10 o15 o16 o17 : Option M) :
    ∃ (b' : M) (t : List Nat), BagOk b' ∧ t ≠ [] ∧ t.length ≤ 7 ∧ lw2_1 C [s, some b, o2, none, none, none, some (ob C fs since), some (D fs), some (lo since), o9, o10, none, none, some (mS n), some (mI w), o15, o16, o17, none, none] = .ok (.nx [s, some b', o2, none, none, none, some (ob C fs (since ++ [(n, some t)])), some (D fs), some (lo (since ++ [(n, some t)])), o9, o10, none, none, some (mS n), some (mI w), o15, o16, some (mS (S t)), none, none]) := by
  obtain ⟨y, b1, hy, e1, h1⟩ := some_ok (x := .str "x") (l := [.str "one two", .str "3 7", .str "\n", .str "zz\n"]) C hb (by decide)
  obtain ⟨x, hx, rfl⟩ : ∃ x, x ∈ five ∧ y = .str x := by
    rw [show [I.str "x", .str "one two", .str "3 7", .str "\n", .str "zz\n"] = five.map I.str from rfl] at hy
    obtain ⟨n, hn, rfl⟩ := List.mem_map.mp hy
    exact ⟨n, hn, rfl⟩
  obtain ⟨t1, t2⟩ := five_ok x hx
  rw [← S_eta x] at e1
  generalize x.cps.toList = t at *
  have e0 : mLst [mS "x", mS "one two", mS "3 7", mS "\n", mS "zz\n"] = .ok (.lst ([.str "x", .str "one two", .str "3 7", .str "\n", .str "zz\n"].map M.im)) := rfl
  have hl := h.len
  have hl2 := sns_len h.sn
  have e2 := is_add C fs since
  have e3 := add' C fs (since := since) n t1 (by omega)
  have e5 : extM (lo since) [.lst (t.map fun c => sg (n, [c]))] = .ok (mN, lo (since ++ [(n, some t)])) := by
    have := ext_sg (l := sgs since) (k := t.map fun c => (n, [c])) (by rw [List.length_map]; omega)
    rw [List.map_map] at this
    unfold lo
    rw [sgs_add]
    rw [show sgs [(n, some t)] = t.map fun c => (n, [c]) from by rw [sgs_cons]; exact List.append_nil _]
    exact this
  have hlc : ∀ ρ : DL.Env, ρ = [s, some b1, o2, none, none, none, some (ob C fs (since ++ [(n, some t)])), some (D fs), some (lo since), o9, o10, none, none, some (mS n), some (mI w), o15, o16, some (mS (S t)), none, none] → lcM [19] (fun ρ => (getV ρ 17 >>= itemsM)) (gSet 19) yesM (fun ρ => (((getV ρ 13 >>= asIm) >>= fun m => ((getV ρ 19 >>= asIm) >>= fun m => R.ok [] >>= fun ms => R.ok (m :: ms)) >>= fun ms => R.ok (m :: ms)) >>= mTup)) ρ = .ok (.lst (t.map fun c => sg (n, [c]))) := fun ρ hρ => by
    subst hρ
    refine lcM_map sgn (fun c => sg (n, [c])) ?_ (sz (by omega)) fun c _ => ⟨_, rfl, rfl, ?_⟩
    · simp only [↓seqS_eq, ↓ifS_eq, ↓setS_eq, ↓retS_eq, ↓augItL_eq, ↓plS2_eq, augK1_l, augK2_i, augK3_s, ↓plX_eq, ↓dropX_eq, ↓setX_eq, ↓retX_eq, ↓augS_eq, ↓parS_2, parK_2, ↓asgS_eq, ↓rIf_eq, ↓rOr_eq, ↓vAnd_eq, seqK_nx, seqK_rt, seqK_bk, setK_eq, ifK_t, ifK_f, retK_eq, rIfK_t, rIfK_f, rOrK_t, rOrK_f, R.ok_bind, R.no_bind, getV_0, getV_s, List.set_cons_zero, List.set_cons_succ, ixM_lst, atI_0, atI_1, atI_2, atI_3, ofO_some, oEq_ii, oNe_ii, oGt_ii, oGe_ii, oLt_ii, oLe_ii, oAdd_ii, oAddI_ii, oSub_ii, asB_ok, intR_ok, asIm_ok, asI_ok, cutM_ints, setItL_0, setItL_1, setItL_2, setItL_3, subM_nil, updM_nil, env0, List.map_cons, List.map_nil, List.length_cons, List.length_nil, List.cons_append, List.nil_append, decide_true, decide_false, intM_int, mLst_one, Nat.zero_add, Nat.reduceAdd, Nat.reduceSub, List.replicate_succ, List.replicate_zero, if_true, if_false, wipeE_eq, wipeR_nil, wipeR_cons, List.contains_cons, List.contains_nil, Nat.reduceBEq, Bool.or_true, Bool.true_or, Bool.or_false, Bool.false_or, cond_true, cond_false, items_S]
    · simp only [↓seqS_eq, ↓ifS_eq, ↓setS_eq, ↓retS_eq, ↓augItL_eq, ↓plS2_eq, augK1_l, augK2_i, augK3_s, ↓plX_eq, ↓dropX_eq, ↓setX_eq, ↓retX_eq, ↓augS_eq, ↓parS_2, parK_2, ↓asgS_eq, ↓rIf_eq, ↓rOr_eq, ↓vAnd_eq, seqK_nx, seqK_rt, seqK_bk, setK_eq, ifK_t, ifK_f, retK_eq, rIfK_t, rIfK_f, rOrK_t, rOrK_f, R.ok_bind, R.no_bind, getV_0, getV_s, List.set_cons_zero, List.set_cons_succ, ixM_lst, atI_0, atI_1, atI_2, atI_3, ofO_some, oEq_ii, oNe_ii, oGt_ii, oGe_ii, oLt_ii, oLe_ii, oAdd_ii, oAddI_ii, oSub_ii, asB_ok, intR_ok, asIm_ok, asI_ok, cutM_ints, setItL_0, setItL_1, setItL_2, setItL_3, subM_nil, updM_nil, env0, List.map_cons, List.map_nil, List.length_cons, List.length_nil, List.cons_append, List.nil_append, decide_true, decide_false, intM_int, mLst_one, Nat.zero_add, Nat.reduceAdd, Nat.reduceSub, List.replicate_succ, List.replicate_zero, if_true, if_false, wipeE_eq, wipeR_nil, wipeR_cons, List.contains_cons, List.contains_nil, Nat.reduceBEq, Bool.or_true, Bool.true_or, Bool.or_false, Bool.false_or, cond_true, cond_false, mTup2]
  have hlc := hlc _ rfl
  simp only [R.ok_bind] at hlc
  have w0 : decide (w = 0) = false := decide_eq_false w0
  have w1 : decide (w = 1) = false := decide_eq_false w1
  refine ⟨b1, t, h1, t1, t2, ?_⟩
  unfold lw2_1
  simp only [List.map_cons, List.map_nil] at e0 e1
  simp only [↓seqS_eq, ↓ifS_eq, ↓setS_eq, ↓retS_eq, ↓augItL_eq, ↓plS2_eq, augK1_l, augK2_i, augK3_s, ↓plX_eq, ↓dropX_eq, ↓setX_eq, ↓retX_eq, ↓augS_eq, ↓parS_2, parK_2, ↓asgS_eq, ↓rIf_eq, ↓rOr_eq, ↓vAnd_eq, seqK_nx, seqK_rt, seqK_bk, setK_eq, ifK_t, ifK_f, retK_eq, rIfK_t, rIfK_f, rOrK_t, rOrK_f, R.ok_bind, R.no_bind, getV_0, getV_s, List.set_cons_zero, List.set_cons_succ, ixM_lst, atI_0, atI_1, atI_2, atI_3, ofO_some, oEq_ii, oNe_ii, oGt_ii, oGe_ii, oLt_ii, oLe_ii, oAdd_ii, oAddI_ii, oSub_ii, asB_ok, intR_ok, asIm_ok, asI_ok, cutM_ints, setItL_0, setItL_1, setItL_2, setItL_3, subM_nil, updM_nil, env0, List.map_cons, List.map_nil, List.length_cons, List.length_nil, List.cons_append, List.nil_append, decide_true, decide_false, intM_int, mLst_one, Nat.zero_add, Nat.reduceAdd, Nat.reduceSub, List.replicate_succ, List.replicate_zero, if_true, if_false, wipeE_eq, wipeR_nil, wipeR_cons, List.contains_cons, List.contains_nil, Nat.reduceBEq, Bool.or_true, Bool.true_or, Bool.or_false, Bool.false_or, cond_true, cond_false, w0, w1, e0, e1, e2, e3, hlc, e5]
end DL.K52
/-! LT15: one round of deeds: what is looked at. -/
namespace DL.K52
open PySem PySem.Spec PyProof.Rows L2 DL SX
theorem deed (C : Addr) {B k : Nat} {fs : Fs} {since : List Sn} {n : Str} {w : Int} {b : M} (hb : BagOk b) (h : St B k fs since) (hB : B ≤ 80000) (hn : n ∈ four) (s o2 o9 o10 o15 o16 o17 : Option M) :
    ∃ (b' : M) (k' : Nat) (fs' : Fs) (since' : List Sn) (o17' : Option M), BagOk b' ∧ St (B + 14) k' fs' since' ∧ lw2_1 C [s, some b, o2, none, none, none, some (ob C fs since), some (D fs), some (lo since), o9, o10, none, none, some (mS n), some (mI w), o15, o16, o17, none, none] = .ok (.nx [s, some b', o2, none, none, none, some (ob C fs' since'), some (D fs'), some (lo since'), o9, o10, none, none, some (mS n), some (mI w), o15, o16, o17', none, none]) := by
  by_cases w0 : w = 0
  · subst w0
    refine ⟨b, _, _, _, o17, hb, ⟨h.fs.fold (sgs_ok h.sn), by simp, ?_⟩, deed_sync C h (by omega) s _ o2 o9 o10 _ o15 o16 o17⟩
    have := h.len
    show k + 2 * (sgs since).length + 2 * 0 ≤ B + 14
    omega
  · by_cases w1 : w = 1
    · subst w1
      cases q : (getO (all fs since) n).isSome with
      | true =>
        refine ⟨b, _, _, _, o17, hb, ⟨h.fs, ?_, ?_⟩, deed_drop C h (by omega) s _ o2 o9 o10 o15 o16 o17 q⟩
        · intro p hp
          rcases List.mem_append.mp hp with z | z
          · exact h.sn p z
          · rw [List.mem_singleton] at z
            subst z
            exact ⟨hn, fun t e => by cases e⟩
        · have := h.len
          rw [sgs_add, List.length_append]
          show k + 2 * ((sgs since).length + 1) ≤ B + 14
          omega
      | false => exact ⟨b, _, _, _, o17, hb, h.mono (by omega), deed_none C h (by omega) s _ o2 o9 o10 o15 o16 o17 q⟩
    · obtain ⟨b', t, hb', t1, t2, e⟩ := deed_add C (n := n) hb h hB w0 w1 s o2 o9 o10 o15 o16 o17
      refine ⟨b', _, _, _, _, hb', ⟨h.fs, ?_, ?_⟩, e⟩
      · intro p hp
        rcases List.mem_append.mp hp with z | z
        · exact h.sn p z
        · rw [List.mem_singleton] at z
          subst z
          exact ⟨hn, fun t e => by cases e; exact ⟨t1, by omega⟩⟩
      · have := h.len
        rw [sgs_add, List.length_append, show sgs [(n, some t)] = t.map fun c => (n, [c]) from by rw [sgs_cons]; exact List.append_nil _, List.length_map]
        omega
section
variable (C : Addr) {B k : Nat} {fs : Fs} {since : List Sn} (h : St B k fs since) (hB : B ≤ 90000)
include h hB
theorem p2 (s b o2 o9 o10 o13 o14 o15 o16 o17 : Option M) : lw2_2 C [s, b, o2, none, none, none, some (ob C fs since), some (D fs), some (lo since), o9, o10, none, none, o13, o14, o15, o16, o17, none, none] = .ok (.nx [s, b, o2, none, none, none, some (ob C fs since), some (D fs), some (lo since), some (D (all fs since)), o10, none, none, o13, o14, o15, o16, o17, none, none]) := by
  have e3 := files_st C h hB
  unfold lw2_2
  simp only [↓seqS_eq, ↓ifS_eq, ↓setS_eq, ↓retS_eq, ↓augItL_eq, ↓plS2_eq, augK1_l, augK2_i, augK3_s, ↓plX_eq, ↓dropX_eq, ↓setX_eq, ↓retX_eq, ↓augS_eq, ↓parS_2, parK_2, ↓asgS_eq, ↓rIf_eq, ↓rOr_eq, ↓vAnd_eq, seqK_nx, seqK_rt, seqK_bk, setK_eq, ifK_t, ifK_f, retK_eq, rIfK_t, rIfK_f, rOrK_t, rOrK_f, R.ok_bind, R.no_bind, getV_0, getV_s, List.set_cons_zero, List.set_cons_succ, ixM_lst, atI_0, atI_1, atI_2, atI_3, ofO_some, oEq_ii, oNe_ii, oGt_ii, oGe_ii, oLt_ii, oLe_ii, oAdd_ii, oAddI_ii, oSub_ii, asB_ok, intR_ok, asIm_ok, asI_ok, cutM_ints, setItL_0, setItL_1, setItL_2, setItL_3, subM_nil, updM_nil, env0, List.map_cons, List.map_nil, List.length_cons, List.length_nil, List.cons_append, List.nil_append, decide_true, decide_false, intM_int, mLst_one, Nat.zero_add, Nat.reduceAdd, Nat.reduceSub, List.replicate_succ, List.replicate_zero, if_true, if_false, wipeE_eq, wipeR_nil, wipeR_cons, List.contains_cons, List.contains_nil, Nat.reduceBEq, Bool.or_true, Bool.true_or, Bool.or_false, Bool.false_or, cond_true, cond_false, e3]
theorem sgs_le : (sgs since).length ≤ 100000 := by
  have := h.len
  omega
theorem p3 (s b o2 o10 o13 o14 o15 o16 o17 : Option M) : lw2_3 C [s, b, o2, none, none, none, some (ob C fs since), some (D fs), some (lo since), some (D (all fs since)), o10, none, none, o13, o14, o15, o16, o17, none, none] = .ok (.nx [s, b, o2, none, none, none, some (ob C fs since), some (D fs), some (lo since), some (D (all fs since)), o10, none, none, o13, o14, o15, o16, o17, none, none]) := by
  have hk := h.dk hB
  have e1 := names' C hk
  have e2 := loose' C hk
  have e3 := is_names C fs since
  have e4 := is_loose C fs since
  have e5 := sorted_D (all_ok hk)
  have e6 := tuple_strs (sortS (nms (all fs since)))
  have e7 : lenM [lo since] = .ok (mI ((sgs since).length : Nat)) := by
    rw [len_lst, List.length_map]
  have e8 : ∀ x y : M, mLst [x, y] = .ok (.lst [x, y]) := fun x y => rfl
  obtain ⟨f1, f2⟩ := sort_facts (all_ok hk)
  have e9 := alike_lst C (n := (sgs since).length) f1 f2 (sgs_le h hB)
  unfold lw2_3
  simp only [↓seqS_eq, ↓ifS_eq, ↓setS_eq, ↓retS_eq, ↓augItL_eq, ↓plS2_eq, augK1_l, augK2_i, augK3_s, ↓plX_eq, ↓dropX_eq, ↓setX_eq, ↓retX_eq, ↓augS_eq, ↓parS_2, parK_2, ↓asgS_eq, ↓rIf_eq, ↓rOr_eq, ↓vAnd_eq, seqK_nx, seqK_rt, seqK_bk, setK_eq, ifK_t, ifK_f, retK_eq, rIfK_t, rIfK_f, rOrK_t, rOrK_f, R.ok_bind, R.no_bind, getV_0, getV_s, List.set_cons_zero, List.set_cons_succ, ixM_lst, atI_0, atI_1, atI_2, atI_3, ofO_some, oEq_ii, oNe_ii, oGt_ii, oGe_ii, oLt_ii, oLe_ii, oAdd_ii, oAddI_ii, oSub_ii, asB_ok, intR_ok, asIm_ok, asI_ok, cutM_ints, setItL_0, setItL_1, setItL_2, setItL_3, subM_nil, updM_nil, env0, List.map_cons, List.map_nil, List.length_cons, List.length_nil, List.cons_append, List.nil_append, decide_true, decide_false, intM_int, mLst_one, Nat.zero_add, Nat.reduceAdd, Nat.reduceSub, List.replicate_succ, List.replicate_zero, if_true, if_false, wipeE_eq, wipeR_nil, wipeR_cons, List.contains_cons, List.contains_nil, Nat.reduceBEq, Bool.or_true, Bool.true_or, Bool.or_false, Bool.false_or, cond_true, cond_false, e1, e2, e3, e4, e5, e6, e7, e8, e9, Bool.not_true, nextS]
end
theorem lcR_none {g : M → DL.Env → R DL.Env} {ft : DL.Env → R Bool} {fe : DL.Env → R M} {ρ : DL.Env} : ∀ {l : List M}, (∀ a ∈ l, ∃ ρ1, g a ρ = .ok ρ1 ∧ ft ρ1 = .ok false) → lcR g ft fe ρ l = .ok []
  | [], _ => rfl
  | a :: l, h => by
    obtain ⟨ρ1, h1, h2⟩ := h a (List.mem_cons_self ..)
    show (g a ρ >>= fun ρ1 => ft ρ1 >>= fun b => if b then fe ρ1 >>= fun v => lcR g ft fe ρ l >>= fun vs => R.ok (v :: vs) else lcR g ft fe ρ l) = _
    rw [lcR_none fun b hb => h b (List.mem_cons_of_mem _ hb)]
    simp only [h1, h2, R.ok_bind, Bool.false_eq_true, if_false]
theorem lcM_none {vs : List Nat} {f : DL.Env → R (List M)} {g : M → DL.Env → R DL.Env} {ft : DL.Env → R Bool} {fe : DL.Env → R M} {ρ : DL.Env} {l : List M} (hf : f ρ = .ok l) (hl : l.length ≤ sizeLine) (h : ∀ a ∈ l, ∃ ρ1, g a (wipeE vs ρ) = .ok ρ1 ∧ ft ρ1 = .ok false) : lcM vs f g ft fe ρ = .ok (.lst []) := by
  unfold lcM
  simp only [hf, R.ok_bind, if_pos hl, lcR_none h]
theorem ne_nil : oNe (.lst []) (.lst []) = .ok (mB false) := by
  show (eqD (.lst []) (.lst []) >>= fun b => R.ok (mB (!b))) = _
  have : eqD (.lst []) (.lst []) = .ok true := eqD_same (d := .list []) (by simp only [dM, dMs, Option.map_some]) (by simp only [PyData.plain, PyData.plainAll]) (by simp only [PyData.depth, PyData.depthAll]; decide)
  rw [this]; rfl
theorem ne_S (x : List Nat) : oNe (mS (S x)) (mS (S x)) = .ok (mB false) := by
  rw [oNe_SS, decide_eq_true rfl]; rfl
section
variable (C : Addr) {B k : Nat} {fs : Fs} {since : List Sn} (h : St B k fs since) (hB : B ≤ 90000)
include h hB
theorem p4 (s b o2 o10 o13 o14 o15 o16 o17 : Option M) : lw2_4 C [s, b, o2, none, none, none, some (ob C fs since), some (D fs), some (lo since), some (D (all fs since)), o10, none, none, o13, o14, o15, o16, o17, none, none] = .ok (.nx [s, b, o2, none, none, none, some (ob C fs since), some (D fs), some (lo since), some (D (all fs since)), o10, none, none, o13, o14, o15, o16, o17, none, none]) := by
  have hk := h.dk hB
  have e1 := text' C hk
  have e3 := is_text C fs since
  have e4 := get2_D (all fs since)
  have e0 : mTup [mS "a", mS "b", mS "log", mS "seg", mS "no"] = .ok (mT [.str "a", .str "b", .str "log", .str "seg", .str "no"]) := rfl
  have e9 : itemsM (mT [.str "a", .str "b", .str "log", .str "seg", .str "no"]) = .ok (([.str "a", .str "b", .str "log", .str "seg", .str "no"] : List I).map M.im) := rfl
  have hlc : ∀ ρ : DL.Env, ρ = [s, b, o2, none, none, none, some (ob C fs since), some (D fs), some (lo since), some (D (all fs since)), o10, none, none, o13, o14, o15, o16, o17, none, none] →
      (lcM [18] (fun ρ => (((R.ok (mS "a") >>= fun m => (R.ok (mS "b") >>= fun m => (R.ok (mS "log") >>= fun m => (R.ok (mS "seg") >>= fun m => (R.ok (mS "no") >>= fun m => R.ok [] >>= fun ms => R.ok (m :: ms)) >>= fun ms => R.ok (m :: ms)) >>= fun ms => R.ok (m :: ms)) >>= fun ms => R.ok (m :: ms)) >>= fun ms => R.ok (m :: ms)) >>= mTup) >>= itemsM)) (gSet 18) (fun ρ => ((getV ρ 6 >>= fun a => isObj C "text" a >>= fun a => (getV ρ 18 >>= fun m => R.ok [] >>= fun ms => R.ok (m :: ms)) >>= fun ms => (Disk_text_f C) (a :: ms)) >>= fun x => (getV ρ 9 >>= fun x => getV ρ 18 >>= fun y => R.ok (mS "") >>= fun z => dGet2 x y z) >>= fun y => oNe x y >>= asB)) (fun ρ => R.ok (mI 1)) ρ) = .ok (.lst []) := fun ρ hρ => by
    subst hρ
    refine lcM_none (l := ([.str "a", .str "b", .str "log", .str "seg", .str "no"] : List I).map M.im) ?_ ?_ fun a ha => ⟨_, rfl, ?_⟩
    · simp only [↓seqS_eq, ↓ifS_eq, ↓setS_eq, ↓retS_eq, ↓augItL_eq, ↓plS2_eq, augK1_l, augK2_i, augK3_s, ↓plX_eq, ↓dropX_eq, ↓setX_eq, ↓retX_eq, ↓augS_eq, ↓parS_2, parK_2, ↓asgS_eq, ↓rIf_eq, ↓rOr_eq, ↓vAnd_eq, seqK_nx, seqK_rt, seqK_bk, setK_eq, ifK_t, ifK_f, retK_eq, rIfK_t, rIfK_f, rOrK_t, rOrK_f, R.ok_bind, R.no_bind, getV_0, getV_s, List.set_cons_zero, List.set_cons_succ, ixM_lst, atI_0, atI_1, atI_2, atI_3, ofO_some, oEq_ii, oNe_ii, oGt_ii, oGe_ii, oLt_ii, oLe_ii, oAdd_ii, oAddI_ii, oSub_ii, asB_ok, intR_ok, asIm_ok, asI_ok, cutM_ints, setItL_0, setItL_1, setItL_2, setItL_3, subM_nil, updM_nil, env0, List.map_cons, List.map_nil, List.length_cons, List.length_nil, List.cons_append, List.nil_append, decide_true, decide_false, intM_int, mLst_one, Nat.zero_add, Nat.reduceAdd, Nat.reduceSub, List.replicate_succ, List.replicate_zero, if_true, if_false, wipeE_eq, wipeR_nil, wipeR_cons, List.contains_cons, List.contains_nil, Nat.reduceBEq, Bool.or_true, Bool.true_or, Bool.or_false, Bool.false_or, cond_true, cond_false, e0, e9]
    · exact sz (by decide)
    · obtain ⟨n, rfl⟩ : ∃ n, a = mS n := by
        rw [show ([.str "a", .str "b", .str "log", .str "seg", .str "no"] : List I).map M.im = (["a", "b", "log", "seg", "no"] : List Str).map mS from rfl] at ha
        obtain ⟨n, _, rfl⟩ := List.mem_map.mp ha
        exact ⟨n, rfl⟩
      simp only [↓seqS_eq, ↓ifS_eq, ↓setS_eq, ↓retS_eq, ↓augItL_eq, ↓plS2_eq, augK1_l, augK2_i, augK3_s, ↓plX_eq, ↓dropX_eq, ↓setX_eq, ↓retX_eq, ↓augS_eq, ↓parS_2, parK_2, ↓asgS_eq, ↓rIf_eq, ↓rOr_eq, ↓vAnd_eq, seqK_nx, seqK_rt, seqK_bk, setK_eq, ifK_t, ifK_f, retK_eq, rIfK_t, rIfK_f, rOrK_t, rOrK_f, R.ok_bind, R.no_bind, getV_0, getV_s, List.set_cons_zero, List.set_cons_succ, ixM_lst, atI_0, atI_1, atI_2, atI_3, ofO_some, oEq_ii, oNe_ii, oGt_ii, oGe_ii, oLt_ii, oLe_ii, oAdd_ii, oAddI_ii, oSub_ii, asB_ok, intR_ok, asIm_ok, asI_ok, cutM_ints, setItL_0, setItL_1, setItL_2, setItL_3, subM_nil, updM_nil, env0, List.map_cons, List.map_nil, List.length_cons, List.length_nil, List.cons_append, List.nil_append, decide_true, decide_false, intM_int, mLst_one, Nat.zero_add, Nat.reduceAdd, Nat.reduceSub, List.replicate_succ, List.replicate_zero, if_true, if_false, wipeE_eq, wipeR_nil, wipeR_cons, List.contains_cons, List.contains_nil, Nat.reduceBEq, Bool.or_true, Bool.true_or, Bool.or_false, Bool.false_or, cond_true, cond_false, e3, e1, e4, ne_S]
  have hlc := hlc _ rfl
  simp only [R.ok_bind] at hlc
  unfold lw2_4
  simp only [↓seqS_eq, ↓ifS_eq, ↓setS_eq, ↓retS_eq, ↓augItL_eq, ↓plS2_eq, augK1_l, augK2_i, augK3_s, ↓plX_eq, ↓dropX_eq, ↓setX_eq, ↓retX_eq, ↓augS_eq, ↓parS_2, parK_2, ↓asgS_eq, ↓rIf_eq, ↓rOr_eq, ↓vAnd_eq, seqK_nx, seqK_rt, seqK_bk, setK_eq, ifK_t, ifK_f, retK_eq, rIfK_t, rIfK_f, rOrK_t, rOrK_f, R.ok_bind, R.no_bind, getV_0, getV_s, List.set_cons_zero, List.set_cons_succ, ixM_lst, atI_0, atI_1, atI_2, atI_3, ofO_some, oEq_ii, oNe_ii, oGt_ii, oGe_ii, oLt_ii, oLe_ii, oAdd_ii, oAddI_ii, oSub_ii, asB_ok, intR_ok, asIm_ok, asI_ok, cutM_ints, setItL_0, setItL_1, setItL_2, setItL_3, subM_nil, updM_nil, env0, List.map_cons, List.map_nil, List.length_cons, List.length_nil, List.cons_append, List.nil_append, decide_true, decide_false, intM_int, mLst_one, Nat.zero_add, Nat.reduceAdd, Nat.reduceSub, List.replicate_succ, List.replicate_zero, if_true, if_false, wipeE_eq, wipeR_nil, wipeR_cons, List.contains_cons, List.contains_nil, Nat.reduceBEq, Bool.or_true, Bool.true_or, Bool.or_false, Bool.false_or, cond_true, cond_false, hlc, mLst_nil, ne_nil, nextS]
theorem p5 {b : M} (hb : BagOk b) (s o2 o10 o13 o14 o15 o16 o17 : Option M) : ∃ (b' : M) (m : Nat), BagOk b' ∧ lw2_5 C [s, some b, o2, none, none, none, some (ob C fs since), some (D fs), some (lo since), some (D (all fs since)), o10, none, none, o13, o14, o15, o16, o17, none, none] = .ok (.nx [s, some b', o2, none, none, none, some (ob C fs since), some (D fs), some (lo since), some (D (all fs since)), some (mI (m : Nat)), none, none, o13, o14, o15, o16, o17, none, none]) := by
  have hl := sgs_le h hB
  obtain ⟨v, b', e1, hv, hv2, hb'⟩ := take_ok (many := ((sgs since).length : Int) + 1) C hb (by omega) (by omega)
  obtain ⟨m, rfl⟩ := Int.eq_ofNat_of_zero_le hv
  have e7 : lenM [lo since] = .ok (mI ((sgs since).length : Nat)) := by
    rw [len_lst, List.length_map]
  refine ⟨b', m, hb', ?_⟩
  unfold lw2_5
  simp only [↓seqS_eq, ↓ifS_eq, ↓setS_eq, ↓retS_eq, ↓augItL_eq, ↓plS2_eq, augK1_l, augK2_i, augK3_s, ↓plX_eq, ↓dropX_eq, ↓setX_eq, ↓retX_eq, ↓augS_eq, ↓parS_2, parK_2, ↓asgS_eq, ↓rIf_eq, ↓rOr_eq, ↓vAnd_eq, seqK_nx, seqK_rt, seqK_bk, setK_eq, ifK_t, ifK_f, retK_eq, rIfK_t, rIfK_f, rOrK_t, rOrK_f, R.ok_bind, R.no_bind, getV_0, getV_s, List.set_cons_zero, List.set_cons_succ, ixM_lst, atI_0, atI_1, atI_2, atI_3, ofO_some, oEq_ii, oNe_ii, oGt_ii, oGe_ii, oLt_ii, oLe_ii, oAdd_ii, oAddI_ii, oSub_ii, asB_ok, intR_ok, asIm_ok, asI_ok, cutM_ints, setItL_0, setItL_1, setItL_2, setItL_3, subM_nil, updM_nil, env0, List.map_cons, List.map_nil, List.length_cons, List.length_nil, List.cons_append, List.nil_append, decide_true, decide_false, intM_int, mLst_one, Nat.zero_add, Nat.reduceAdd, Nat.reduceSub, List.replicate_succ, List.replicate_zero, if_true, if_false, wipeE_eq, wipeR_nil, wipeR_cons, List.contains_cons, List.contains_nil, Nat.reduceBEq, Bool.or_true, Bool.true_or, Bool.or_false, Bool.false_or, cond_true, cond_false, e7, e1]
end
/-- what a crash leaves -/
def left (fs : Fs) (since : List Sn) (m : Nat) : Fs := ((sgs since).take m).foldl step1 fs
theorem left_st {B k m : Nat} {fs : Fs} {since : List Sn} (h : St B k fs since) : St B (k + 2 * ((sgs since).take m).length) (left fs since m) [] := by
  refine ⟨h.fs.fold fun q hq => sgs_ok h.sn q (List.mem_of_mem_take hq), by simp, ?_⟩
  have := h.len
  show k + 2 * ((sgs since).take m).length + 2 * 0 ≤ B
  rw [List.length_take]
  omega
theorem all_nil (fs : Fs) : all fs [] = fs := rfl
theorem getO_mem : ∀ {fs : Fs} {n : Str}, n ∈ nms fs → ∃ a, getO fs n = some a
  | (m, y) :: r, n, h => by
    unfold getO
    by_cases q : m = n
    · exact ⟨y, if_pos q⟩
    · rw [if_neg q]
      rcases List.mem_cons.mp h with z | z
      · exact absurd z.symm q
      · exact getO_mem z
theorem plM_eq (i : Nat) (ρ : DL.Env) : plM i [] ρ = getV ρ i := by
  unfold plM
  cases getV ρ i with
  | ok m => simp only [R.ok_bind, subM_nil]
  | _ => rfl
theorem keys_D (fs : Fs) : wkM .keys (D fs) = .ok ((nms fs).map mS) := by
  show R.ok ((Dk fs).map Wk.keys.one) = _
  rw [List.map_map, List.map_map]
  rfl
theorem eqD_D : ∀ (a b : Fs), ∃ e, hitsD (Dk a) (Dk b) = .ok e
  | a, [] => ⟨true, rfl⟩
  | a, (n, x) :: r => by
    obtain ⟨e, h⟩ := eqD_D a r
    show ∃ e, (match dGet (Dk a) (.inr n) with
      | none => R.ok false
      | some m => eqD (mS (S x)) m >>= fun e => hitsD (Dk a) (Dk r) >>= fun b => .ok (e && b)) = .ok e
    rw [dGet_D]
    cases getO a n with
    | none => exact ⟨false, rfl⟩
    | some y =>
      show ∃ e, (eqD (mS (S x)) (mS (S y)) >>= fun e => hitsD (Dk a) (Dk r) >>= fun b => R.ok (e && b)) = .ok e
      rw [eqD_ss, h]
      exact ⟨_, rfl⟩
theorem oEq_D (a b : Fs) : ∃ e, oEq (D a) (D b) = .ok (mB e) := by
  obtain ⟨e, h⟩ := eqD_D b a
  show ∃ e, ((if (Dk a).length = (Dk b).length then hitsD (Dk b) (Dk a) else .ok false) >>= fun b => R.ok (mB b)) = .ok (mB e)
  split
  · rw [h]; exact ⟨e, rfl⟩
  · exact ⟨false, rfl⟩
theorem ne_b (e : Bool) : oNe (mB e) (mB e) = .ok (mB false) := by
  show (eqD (mB e) (mB e) >>= fun b => R.ok (mB (!b))) = _
  have : eqD (mB e) (mB e) = .ok true := eqD_same (d := .bool e) (by simp only [dM, dI]) (by simp only [PyData.plain]) (by simp only [PyData.depth]; decide)
  rw [this]; rfl
theorem own_ob (C : Addr) (F : List M → R M) (a c : Fs) (b d : List Sn) : ownEq C F (ob C a b) (ob C c d) = (F [ob C a b, ob C c d] >>= asB >>= fun r => .ok (mB r)) := if_pos ⟨rfl, rfl⟩
theorem own_3 (C : Addr) (F : List M → R M) (a : Fs) (b : List Sn) : ownEq C F (ob C a b) (mI 3) = (F [ob C a b, mI 3] >>= asB >>= fun r => .ok (mB r)) := if_pos rfl
theorem cut_sg (l : List Sg) (m : Nat) : cutM (.lst (l.map sg)) none (some (m : Int)) = .ok (.lst ((l.take m).map sg)) := by
  have := cutM_ims (l.map fun p => I.tup [.str p.1, .str (S p.2)]) none (some (m : Int))
  rw [cutA_t, List.map_map, ← List.map_take, List.map_map] at this
  exact this
section
variable (C : Addr) {B k m : Nat} {fs : Fs} {since : List Sn} (h : St B k fs since) (hB : B ≤ 90000)
include h hB
theorem p6 (s b o2 o13 o14 o15 o16 o17 : Option M) : lw2_6 C [s, b, o2, none, none, none, some (ob C fs since), some (D fs), some (lo since), some (D (all fs since)), some (mI (m : Nat)), none, none, o13, o14, o15, o16, o17, none, none] = .ok (.nx [s, b, o2, none, none, none, some (ob C fs since), some (D fs), some (lo since), some (D (all fs since)), some (mI (m : Nat)), none, none, o13, o14, some (ob C (left fs since m) []), some (D (left fs since m)), o17, none, none]) := by
  have hk := h.dk hB
  have e1 := crashed' C hk m
  have e2 := is_crashed C fs since
  have e3 := cut_sg (sgs since) m
  have e4 := law_files_ok C h.fs (l := (sgs since).take m) (fun q hq => sgs_ok h.sn q (List.mem_of_mem_take hq)) (by
    have := h.len
    rw [List.length_take]
    omega)
  have e5 : mTup [ob C (left fs since m) [], D (left fs since m)] = .ok (.tpm [ob C (left fs since m) [], D (left fs since m)]) := rfl
  have e6 : ∀ ρ : DL.Env, gTupM 2 (gConsM (gSet 15) (gConsM (gSet 16) gNilM)) (.tpm [ob C (left fs since m) [], D (left fs since m)]) ρ = .ok ((ρ.set 15 (some (ob C (left fs since m) []))).set 16 (some (D (left fs since m)))) := fun ρ => rfl
  unfold left at e5 e6
  unfold lw2_6
  simp only [↓seqS_eq, ↓ifS_eq, ↓setS_eq, ↓retS_eq, ↓augItL_eq, ↓plS2_eq, augK1_l, augK2_i, augK3_s, ↓plX_eq, ↓dropX_eq, ↓setX_eq, ↓retX_eq, ↓augS_eq, ↓parS_2, parK_2, ↓asgS_eq, ↓rIf_eq, ↓rOr_eq, ↓vAnd_eq, seqK_nx, seqK_rt, seqK_bk, setK_eq, ifK_t, ifK_f, retK_eq, rIfK_t, rIfK_f, rOrK_t, rOrK_f, R.ok_bind, R.no_bind, getV_0, getV_s, List.set_cons_zero, List.set_cons_succ, ixM_lst, atI_0, atI_1, atI_2, atI_3, ofO_some, oEq_ii, oNe_ii, oGt_ii, oGe_ii, oLt_ii, oLe_ii, oAdd_ii, oAddI_ii, oSub_ii, asB_ok, intR_ok, asIm_ok, asI_ok, cutM_ints, setItL_0, setItL_1, setItL_2, setItL_3, subM_nil, updM_nil, env0, List.map_cons, List.map_nil, List.length_cons, List.length_nil, List.cons_append, List.nil_append, decide_true, decide_false, intM_int, mLst_one, Nat.zero_add, Nat.reduceAdd, Nat.reduceSub, List.replicate_succ, List.replicate_zero, if_true, if_false, wipeE_eq, wipeR_nil, wipeR_cons, List.contains_cons, List.contains_nil, Nat.reduceBEq, Bool.or_true, Bool.true_or, Bool.or_false, Bool.false_or, cond_true, cond_false, e1, e2, e3, e4, e5, e6]
  rfl
theorem p7 (s b o2 o10 o13 o14 o17 : Option M) : lw2_7 C [s, b, o2, none, none, none, some (ob C fs since), some (D fs), some (lo since), some (D (all fs since)), o10, none, none, o13, o14, some (ob C (left fs since m) []), some (D (left fs since m)), o17, none, none] = .ok (.nx [s, b, o2, none, none, none, some (ob C fs since), some (D fs), some (lo since), some (D (all fs since)), o10, none, none, o13, o14, some (ob C (left fs since m) []), some (D (left fs since m)), o17, none, none]) := by
  have hk := (left_st (m := m) h).dk hB
  have e1 := names' C hk
  have e2 := is_names C (left fs since m) []
  have e3 := sorted_D (all_ok hk)
  have e4 := tuple_strs (sortS (nms (all (left fs since m) [])))
  have e5 := text' C hk
  have e6 := is_text C (left fs since m) []
  rw [all_nil] at e1 e3 e4 e5
  have e7 := oNe_tup (xs := sortS (nms (left fs since m)))
  have e8 := keys_D (left fs since m)
  have hlc : ∀ ρ : DL.Env, ρ = [s, b, o2, none, none, none, some (ob C fs since), some (D fs), some (lo since), some (D (all fs since)), o10, none, none, o13, o14, some (ob C (left fs since m) []), some (D (left fs since m)), o17, none, none] →
      (lcM [18] (fun ρ => (plM 16 [] ρ >>= wkM .keys)) (gSet 18) (fun ρ => ((getV ρ 15 >>= fun a => isObj C "text" a >>= fun a => (getV ρ 18 >>= fun m => R.ok [] >>= fun ms => R.ok (m :: ms)) >>= fun ms => (Disk_text_f C) (a :: ms)) >>= fun x => (getV ρ 16 >>= fun x => getV ρ 18 >>= fun y => dItem x y) >>= fun y => oNe x y >>= asB)) (fun ρ => R.ok (mI 1)) ρ) = .ok (.lst []) := fun ρ hρ => by
    subst hρ
    refine lcM_none (l := (nms (left fs since m)).map mS) ?_ ?_ fun a ha => ?_
    · simp only [↓seqS_eq, ↓ifS_eq, ↓setS_eq, ↓retS_eq, ↓augItL_eq, ↓plS2_eq, augK1_l, augK2_i, augK3_s, ↓plX_eq, ↓dropX_eq, ↓setX_eq, ↓retX_eq, ↓augS_eq, ↓parS_2, parK_2, ↓asgS_eq, ↓rIf_eq, ↓rOr_eq, ↓vAnd_eq, seqK_nx, seqK_rt, seqK_bk, setK_eq, ifK_t, ifK_f, retK_eq, rIfK_t, rIfK_f, rOrK_t, rOrK_f, R.ok_bind, R.no_bind, getV_0, getV_s, List.set_cons_zero, List.set_cons_succ, ixM_lst, atI_0, atI_1, atI_2, atI_3, ofO_some, oEq_ii, oNe_ii, oGt_ii, oGe_ii, oLt_ii, oLe_ii, oAdd_ii, oAddI_ii, oSub_ii, asB_ok, intR_ok, asIm_ok, asI_ok, cutM_ints, setItL_0, setItL_1, setItL_2, setItL_3, subM_nil, updM_nil, env0, List.map_cons, List.map_nil, List.length_cons, List.length_nil, List.cons_append, List.nil_append, decide_true, decide_false, intM_int, mLst_one, Nat.zero_add, Nat.reduceAdd, Nat.reduceSub, List.replicate_succ, List.replicate_zero, if_true, if_false, wipeE_eq, wipeR_nil, wipeR_cons, List.contains_cons, List.contains_nil, Nat.reduceBEq, Bool.or_true, Bool.true_or, Bool.or_false, Bool.false_or, cond_true, cond_false, plM_eq, e8]
    · have := (all_ok hk).four
      rw [all_nil] at this
      rw [List.length_map]
      exact sz (by omega)
    · obtain ⟨n, hn, rfl⟩ := List.mem_map.mp ha
      obtain ⟨x, hx⟩ := getO_mem hn
      have e9 := item_D hx
      have e10 := e5 n
      rw [show DL.K52.get (left fs since m) n = x by unfold DL.K52.get; rw [hx]; rfl] at e10
      refine ⟨_, rfl, ?_⟩
      simp only [↓seqS_eq, ↓ifS_eq, ↓setS_eq, ↓retS_eq, ↓augItL_eq, ↓plS2_eq, augK1_l, augK2_i, augK3_s, ↓plX_eq, ↓dropX_eq, ↓setX_eq, ↓retX_eq, ↓augS_eq, ↓parS_2, parK_2, ↓asgS_eq, ↓rIf_eq, ↓rOr_eq, ↓vAnd_eq, seqK_nx, seqK_rt, seqK_bk, setK_eq, ifK_t, ifK_f, retK_eq, rIfK_t, rIfK_f, rOrK_t, rOrK_f, R.ok_bind, R.no_bind, getV_0, getV_s, List.set_cons_zero, List.set_cons_succ, ixM_lst, atI_0, atI_1, atI_2, atI_3, ofO_some, oEq_ii, oNe_ii, oGt_ii, oGe_ii, oLt_ii, oLe_ii, oAdd_ii, oAddI_ii, oSub_ii, asB_ok, intR_ok, asIm_ok, asI_ok, cutM_ints, setItL_0, setItL_1, setItL_2, setItL_3, subM_nil, updM_nil, env0, List.map_cons, List.map_nil, List.length_cons, List.length_nil, List.cons_append, List.nil_append, decide_true, decide_false, intM_int, mLst_one, Nat.zero_add, Nat.reduceAdd, Nat.reduceSub, List.replicate_succ, List.replicate_zero, if_true, if_false, wipeE_eq, wipeR_nil, wipeR_cons, List.contains_cons, List.contains_nil, Nat.reduceBEq, Bool.or_true, Bool.true_or, Bool.or_false, Bool.false_or, cond_true, cond_false, e6, e10, e9, ne_S]
  have hlc := hlc _ rfl
  simp only [R.ok_bind, plM_eq] at hlc
  unfold lw2_7
  simp only [↓seqS_eq, ↓ifS_eq, ↓setS_eq, ↓retS_eq, ↓augItL_eq, ↓plS2_eq, augK1_l, augK2_i, augK3_s, ↓plX_eq, ↓dropX_eq, ↓setX_eq, ↓retX_eq, ↓augS_eq, ↓parS_2, parK_2, ↓asgS_eq, ↓rIf_eq, ↓rOr_eq, ↓vAnd_eq, seqK_nx, seqK_rt, seqK_bk, setK_eq, ifK_t, ifK_f, retK_eq, rIfK_t, rIfK_f, rOrK_t, rOrK_f, R.ok_bind, R.no_bind, getV_0, getV_s, List.set_cons_zero, List.set_cons_succ, ixM_lst, atI_0, atI_1, atI_2, atI_3, ofO_some, oEq_ii, oNe_ii, oGt_ii, oGe_ii, oLt_ii, oLe_ii, oAdd_ii, oAddI_ii, oSub_ii, asB_ok, intR_ok, asIm_ok, asI_ok, cutM_ints, setItL_0, setItL_1, setItL_2, setItL_3, subM_nil, updM_nil, env0, List.map_cons, List.map_nil, List.length_cons, List.length_nil, List.cons_append, List.nil_append, decide_true, decide_false, intM_int, mLst_one, Nat.zero_add, Nat.reduceAdd, Nat.reduceSub, List.replicate_succ, List.replicate_zero, if_true, if_false, wipeE_eq, wipeR_nil, wipeR_cons, List.contains_cons, List.contains_nil, Nat.reduceBEq, Bool.or_true, Bool.true_or, Bool.or_false, Bool.false_or, cond_true, cond_false, plM_eq, hlc, e1, e2, e3, e4, e7, mLst_nil, ne_nil, nextS]
theorem p8 (s b o2 o10 o13 o14 o17 : Option M) : lw2_8 C [s, b, o2, none, none, none, some (ob C fs since), some (D fs), some (lo since), some (D (all fs since)), o10, none, none, o13, o14, some (ob C (left fs since m) []), some (D (left fs since m)), o17, none, none] = .ok (.nx [s, b, o2, none, none, none, some (ob C fs since), some (D fs), some (lo since), some (D (all fs since)), o10, none, none, o13, o14, some (ob C (left fs since m) []), some (D (left fs since m)), o17, none, none]) := by
  have hk := h.dk hB
  have hk2 := (left_st (m := m) h).dk hB
  have e1 := eq' C hk2 hk
  rw [all_nil] at e1
  obtain ⟨e, e2⟩ := oEq_D (left fs since m) (all fs since)
  rw [e2] at e1
  have e3 := eq3 C hk
  unfold lw2_8
  simp only [↓seqS_eq, ↓ifS_eq, ↓setS_eq, ↓retS_eq, ↓augItL_eq, ↓plS2_eq, augK1_l, augK2_i, augK3_s, ↓plX_eq, ↓dropX_eq, ↓setX_eq, ↓retX_eq, ↓augS_eq, ↓parS_2, parK_2, ↓asgS_eq, ↓rIf_eq, ↓rOr_eq, ↓vAnd_eq, seqK_nx, seqK_rt, seqK_bk, setK_eq, ifK_t, ifK_f, retK_eq, rIfK_t, rIfK_f, rOrK_t, rOrK_f, R.ok_bind, R.no_bind, getV_0, getV_s, List.set_cons_zero, List.set_cons_succ, ixM_lst, atI_0, atI_1, atI_2, atI_3, ofO_some, oEq_ii, oNe_ii, oGt_ii, oGe_ii, oLt_ii, oLe_ii, oAdd_ii, oAddI_ii, oSub_ii, asB_ok, intR_ok, asIm_ok, asI_ok, cutM_ints, setItL_0, setItL_1, setItL_2, setItL_3, subM_nil, updM_nil, env0, List.map_cons, List.map_nil, List.length_cons, List.length_nil, List.cons_append, List.nil_append, decide_true, decide_false, intM_int, mLst_one, Nat.zero_add, Nat.reduceAdd, Nat.reduceSub, List.replicate_succ, List.replicate_zero, if_true, if_false, wipeE_eq, wipeR_nil, wipeR_cons, List.contains_cons, List.contains_nil, Nat.reduceBEq, Bool.or_true, Bool.true_or, Bool.or_false, Bool.false_or, cond_true, cond_false, own_ob, own_3, e1, e2, e3, ne_b, nextS]
end
end DL.K52
/-! LT16: all rounds of deeds; the texts. -/
namespace DL.K52
open PySem PySem.Spec PyProof.Rows L2 DL SX
theorem forR_inv {P : Nat → DL.Env → Prop} {N : Nat} {g : M → DL.Env → R DL.Env} {fb : DL.Env → R Fl} : ∀ (ms : List M) (k : Nat) (ρ : DL.Env),
    (∀ m ∈ ms, ∀ k ρ, k < N → P k ρ → ∃ ρ1 ρ2, g m ρ = .ok ρ1 ∧ fb ρ1 = .ok (.nx ρ2) ∧ P (k + 1) ρ2) → P k ρ → k + ms.length ≤ N → ∃ ρ', forR g fb ms ρ = .ok (.nx ρ') ∧ P (k + ms.length) ρ'
  | [], k, ρ, _, h, _ => ⟨ρ, rfl, h⟩
  | m :: ms, k, ρ, hs, h, hk => by
    rw [List.length_cons] at hk
    obtain ⟨ρ1, ρ2, h1, h2, h3⟩ := hs m (List.mem_cons_self ..) k ρ (by omega) h
    obtain ⟨ρ', h4, h5⟩ := forR_inv ms (k + 1) ρ2 (fun n hn => hs n (List.mem_cons_of_mem _ hn)) h3 (by omega)
    refine ⟨ρ', ?_, ?_⟩
    · show (g m ρ >>= fun ρ1 => fb ρ1 >>= _) = _
      rw [h1, R.ok_bind, h2]
      exact h4
    · rw [List.length_cons, show k + (ms.length + 1) = k + 1 + ms.length by omega]
      exact h5
theorem forS_nx {W : List Nat} {f : DL.Env → R (List M × DL.Env)} {g : M → DL.Env → R DL.Env} {fb : DL.Env → R Fl} {ρ ρ1 ρ2 : DL.Env} {ms : List M} (h1 : f ρ = .ok (ms, ρ1)) (h2 : forR g fb ms ρ1 = .ok (.nx ρ2)) : forS W f g fb ρ = .ok (.nx (wipeE W ρ2)) := by
  unfold forS
  rw [h1, R.ok_bind, h2, R.ok_bind]
  rfl
/-- a round -/
def Rnd (C : Addr) (s : Option M) (r : Nat) (ρ : DL.Env) : Prop := ∃ (b : M) (k : Nat) (fs : Fs) (since : List Sn) (o2 o9 o10 o13 o14 o15 o16 o17 : Option M), BagOk b ∧ St (14 * r) k fs since ∧
  ρ = [s, some b, o2, none, none, none, some (ob C fs since), some (D fs), some (lo since), o9, o10, none, none, o13, o14, o15, o16, o17, none, none]
theorem round (C : Addr) (s : Option M) {r : Nat} {ρ : DL.Env} (hr : r < 24) (h : Rnd C s r ρ) : ∃ ρ2, lw2_b C ρ = .ok (.nx ρ2) ∧ Rnd C s (r + 1) ρ2 := by
  obtain ⟨b, k, fs, since, o2, o9, o10, o13, o14, o15, o16, o17, hb, hst, rfl⟩ := h
  obtain ⟨n, w, b1, hn, hb1, e0⟩ := p0 C hb s o2 (some (ob C fs since)) (some (D fs)) (some (lo since)) o9 o10 o13 o14 o15 o16 o17
  obtain ⟨b2, k', fs', since', o17', hb2, hst', e1⟩ := deed C (n := n) (w := w) hb1 hst (by omega) hn s o2 o9 o10 o15 o16 o17
  have hB : 14 * r + 14 ≤ 90000 := by omega
  have e2 := p2 C hst' hB s (some b2) o2 o9 o10 (some (mS n)) (some (mI w)) o15 o16 o17'
  have e3 := p3 C hst' hB s (some b2) o2 o10 (some (mS n)) (some (mI w)) o15 o16 o17'
  have e4 := p4 C hst' hB s (some b2) o2 o10 (some (mS n)) (some (mI w)) o15 o16 o17'
  obtain ⟨b3, m, hb3, e5⟩ := p5 C hst' hB hb2 s o2 o10 (some (mS n)) (some (mI w)) o15 o16 o17'
  have e6 := p6 C (m := m) hst' hB s (some b3) o2 (some (mS n)) (some (mI w)) o15 o16 o17'
  have e7 := p7 C (m := m) hst' hB s (some b3) o2 (some (mI (m : Nat))) (some (mS n)) (some (mI w)) o17'
  have e8 := p8 C (m := m) hst' hB s (some b3) o2 (some (mI (m : Nat))) (some (mS n)) (some (mI w)) o17'
  have e9 : lw2_b C [s, some b, o2, none, none, none, some (ob C fs since), some (D fs), some (lo since), o9, o10, none, none, o13, o14, o15, o16, o17, none, none] = .ok (.nx [s, some b3, o2, none, none, none, some (ob C fs' since'), some (D fs'), some (lo since'), some (D (all fs' since')), some (mI (m : Nat)), none, none, some (mS n), some (mI w), some (ob C (left fs' since' m) []), some (D (left fs' since' m)), o17', none, none]) := by
    unfold lw2_b
    rw [seqS_eq, e0, R.ok_bind, seqK_nx, seqS_eq, e1, R.ok_bind, seqK_nx, seqS_eq, e2, R.ok_bind, seqK_nx, seqS_eq, e3, R.ok_bind, seqK_nx, seqS_eq, e4, R.ok_bind, seqK_nx, seqS_eq, e5, R.ok_bind, seqK_nx, seqS_eq, e6, R.ok_bind, seqK_nx, seqS_eq, e7, R.ok_bind, seqK_nx, e8]
  exact ⟨_, e9, b3, k', fs', since', o2, some (D (all fs' since')), some (mI (m : Nat)), some (mS n), some (mI w), some (ob C (left fs' since' m) []), some (D (left fs' since' m)), o17', hb3, hst'.mono (by omega), rfl⟩
theorem rounds_n (C : Addr) {b : M} (h : BagOk b) (ρ : DL.Env) (hρ : getV ρ 1 = .ok b) : ∃ (n : Nat) (b' : M), n ≤ 24 ∧ BagOk b' ∧
    (consX (fun ρ => (fun ρ => (((R.ok (mI 14) >>= fun m => (R.ok (mI 24) >>= fun m => R.ok [] >>= fun ms => R.ok (m :: ms)) >>= fun ms => R.ok (m :: ms)) >>= mLst) >>= fun m => R.ok [] >>= fun ms => R.ok (m :: ms)) >>= fun ms => plX 1 [] (fun n => (_law_some_f C) n ms) ρ) ρ >>= fun x => asI x.1 >>= fun i => R.ok (i, x.2)) (fun ρ => R.ok ([], ρ))) ρ = .ok ([.int (n : Nat)], ρ.set 1 (some b')) := by
  obtain ⟨y, b1, hy, e1, h1⟩ := some_ok (x := .int 14) (l := [.int 24]) C h (by decide)
  have e0 : mLst [mI 14, mI 24] = .ok (.lst [mI 14, mI 24]) := rfl
  have key : ∀ n : Nat, y = .int (n : Nat) → (consX (fun ρ => (fun ρ => (((R.ok (mI 14) >>= fun m => (R.ok (mI 24) >>= fun m => R.ok [] >>= fun ms => R.ok (m :: ms)) >>= fun ms => R.ok (m :: ms)) >>= mLst) >>= fun m => R.ok [] >>= fun ms => R.ok (m :: ms)) >>= fun ms => plX 1 [] (fun n => (_law_some_f C) n ms) ρ) ρ >>= fun x => asI x.1 >>= fun i => R.ok (i, x.2)) (fun ρ => R.ok ([], ρ))) ρ = .ok ([.int (n : Nat)], ρ.set 1 (some b1)) := fun n hn => by
    subst hn
    simp only [List.map_cons, List.map_nil] at e1
    simp only [↓seqS_eq, ↓ifS_eq, ↓setS_eq, ↓retS_eq, ↓augItL_eq, ↓plS2_eq, augK1_l, augK2_i, augK3_s, ↓plX_eq, ↓dropX_eq, ↓setX_eq, ↓retX_eq, ↓augS_eq, ↓parS_2, parK_2, ↓asgS_eq, ↓rIf_eq, ↓rOr_eq, ↓vAnd_eq, seqK_nx, seqK_rt, seqK_bk, setK_eq, ifK_t, ifK_f, retK_eq, rIfK_t, rIfK_f, rOrK_t, rOrK_f, R.ok_bind, R.no_bind, getV_0, getV_s, List.set_cons_zero, List.set_cons_succ, ixM_lst, atI_0, atI_1, atI_2, atI_3, ofO_some, oEq_ii, oNe_ii, oGt_ii, oGe_ii, oLt_ii, oLe_ii, oAdd_ii, oAddI_ii, oSub_ii, asB_ok, intR_ok, asIm_ok, asI_ok, cutM_ints, setItL_0, setItL_1, setItL_2, setItL_3, subM_nil, updM_nil, env0, List.map_cons, List.map_nil, List.length_cons, List.length_nil, List.cons_append, List.nil_append, decide_true, decide_false, intM_int, mLst_one, Nat.zero_add, Nat.reduceAdd, Nat.reduceSub, List.replicate_succ, List.replicate_zero, if_true, if_false, wipeE_eq, wipeR_nil, wipeR_cons, List.contains_cons, List.contains_nil, Nat.reduceBEq, Bool.or_true, Bool.true_or, Bool.or_false, Bool.false_or, cond_true, cond_false, consX, e0, hρ, e1]
  simp only [List.mem_cons, List.not_mem_nil, or_false] at hy
  rcases hy with rfl | rfl
  · exact ⟨14, b1, by omega, h1, key 14 rfl⟩
  · exact ⟨24, b1, by omega, h1, key 24 rfl⟩
theorem rounds (C : Addr) {ns : List Int} {b : M} (h : BagOk b) : ∃ ρ, lw2 C [some (.scr ns), some b, none, none, none, none, some (ob C [] []), some (D []), some (lo []), none, none, none, none, none, none, none, none, none, none, none] = .ok (.nx ρ) ∧
    ∃ (b : M) (r6 r7 r8 r9 r10 r13 r14 r15 r16 r17 r18 r19 : Option M) (r0 : Option M), BagOk b ∧ ρ = [r0, some b, none, none, none, none, r6, r7, r8, r9, r10, none, none, r13, r14, r15, r16, r17, r18, r19] := by
  obtain ⟨n, b', hn, hb', e⟩ := rounds_n C h [some (.scr ns), some b, none, none, none, none, some (ob C [] []), some (D []), some (lo []), none, none, none, none, none, none, none, none, none, none, none] rfl
  have e2 : (fun ρ => (consX (fun ρ => (fun ρ => (((R.ok (mI 14) >>= fun m => (R.ok (mI 24) >>= fun m => R.ok [] >>= fun ms => R.ok (m :: ms)) >>= fun ms => R.ok (m :: ms)) >>= mLst) >>= fun m => R.ok [] >>= fun ms => R.ok (m :: ms)) >>= fun ms => plX 1 [] (fun n => (_law_some_f C) n ms) ρ) ρ >>= fun x => asI x.1 >>= fun i => R.ok (i, x.2)) (fun ρ => R.ok ([], ρ))) ρ >>= fun x => rng1 (x.1.map .im) >>= fun ms => R.ok (ms, x.2)) [some (.scr ns), some b, none, none, none, none, some (ob C [] []), some (D []), some (lo []), none, none, none, none, none, none, none, none, none, none, none] = .ok (rngM 0 (n : Int), [some (.scr ns), some b', none, none, none, none, some (ob C [] []), some (D []), some (lo []), none, none, none, none, none, none, none, none, none, none, none]) := by
    show (consX _ _ _ >>= fun x => rng1 (x.1.map .im) >>= fun ms => R.ok (ms, x.2)) = _
    rw [e, R.ok_bind]
    show (rng1 [mI (n : Int)] >>= fun ms => R.ok (ms, _)) = _
    rw [rng_ok (by omega), R.ok_bind]
    rfl
  obtain ⟨ρ, e3, h3⟩ := forR_inv (P := Rnd C (some (.scr ns))) (N := 24) (g := gSet 2) (fb := lw2_b C) (rngM 0 (n : Int)) 0 [some (.scr ns), some b', none, none, none, none, some (ob C [] []), some (D []), some (lo []), none, none, none, none, none, none, none, none, none, none, none] (fun m _ r ρ hr h => by
      obtain ⟨b, k, fs, since, o2, o9, o10, o13, o14, o15, o16, o17, hb, hst, rfl⟩ := h
      obtain ⟨ρ2, q1, q2⟩ := round C (some (.scr ns)) (ρ := [some (.scr ns), some b, some m, none, none, none, some (ob C fs since), some (D fs), some (lo since), o9, o10, none, none, o13, o14, o15, o16, o17, none, none]) hr ⟨b, k, fs, since, some m, o9, o10, o13, o14, o15, o16, o17, hb, hst, rfl⟩
      exact ⟨_, ρ2, rfl, q1, q2⟩)
    ⟨b', 0, [], [], none, none, none, none, none, none, none, none, hb', ⟨FsOk.nil, by simp, by show 0 + 2 * 0 ≤ 14 * 0; omega⟩, rfl⟩ (by rw [rng_len]; omega)
  obtain ⟨b, k, fs, since, o2, o9, o10, o13, o14, o15, o16, o17, hb, hst, rfl⟩ := h3
  refine ⟨_, forS_nx e2 e3, b, some (ob C fs since), some (D fs), some (lo since), o9, o10, o13, o14, o15, o16, o17, none, none, some (.scr ns), hb, ?_⟩
  simp only [wipeE_eq, wipeR_nil, wipeR_cons, List.contains_cons, List.contains_nil, Nat.zero_add, Nat.reduceAdd, Nat.reduceBEq, Bool.or_true, Bool.true_or, Bool.or_false, Bool.false_or, cond_true, cond_false]
/-! ### the texts -/
def six : List Str := ["", "ab", "1 2 3", "a\nb", "9", "12 34 ab\n"]
theorem six_ok : ∀ x ∈ six, AscS x ∧ x.cps.toList.length ≤ 9 := by
  unfold six AscS
  decide +kernel
def TxOk (t : List Nat) : Prop := Asc t ∧ t.length ≤ 9
def feT (C : Addr) : DL.Env → R (M × DL.Env) := (fun ρ => (((R.ok (mS "") >>= fun m => (R.ok (mS "ab") >>= fun m => (R.ok (mS "1 2 3") >>= fun m => (R.ok (mS "a\nb") >>= fun m => (R.ok (mS "9") >>= fun m => (R.ok (mS "12 34 ab\n") >>= fun m => R.ok [] >>= fun ms => R.ok (m :: ms)) >>= fun ms => R.ok (m :: ms)) >>= fun ms => R.ok (m :: ms)) >>= fun ms => R.ok (m :: ms)) >>= fun ms => R.ok (m :: ms)) >>= fun ms => R.ok (m :: ms)) >>= mLst) >>= fun m => R.ok [] >>= fun ms => R.ok (m :: ms)) >>= fun ms => plX 1 [] (fun n => (_law_some_f C) n ms) ρ)
theorem text_run (C : Addr) {b : M} (h : BagOk b) (ρ : DL.Env) (hρ : getV ρ 1 = .ok b) : ∃ (t : List Nat) (b' : M), TxOk t ∧ BagOk b' ∧
    feT C ρ = .ok (mS (S t), ρ.set 1 (some b')) := by
  obtain ⟨y, b1, hy, e1, h1⟩ := some_ok (x := .str "") (l := [.str "ab", .str "1 2 3", .str "a\nb", .str "9", .str "12 34 ab\n"]) C h (by decide)
  obtain ⟨x, hx, rfl⟩ : ∃ x, x ∈ six ∧ y = .str x := by
    rw [show [I.str "", .str "ab", .str "1 2 3", .str "a\nb", .str "9", .str "12 34 ab\n"] = six.map I.str from rfl] at hy
    obtain ⟨n, hn, rfl⟩ := List.mem_map.mp hy
    exact ⟨n, hn, rfl⟩
  have t1 := six_ok x hx
  rw [← S_eta x] at e1
  have e0 : mLst [mS "", mS "ab", mS "1 2 3", mS "a\nb", mS "9", mS "12 34 ab\n"] = .ok (.lst ([.str "", .str "ab", .str "1 2 3", .str "a\nb", .str "9", .str "12 34 ab\n"].map M.im)) := rfl
  refine ⟨x.cps.toList, b1, t1, h1, ?_⟩
  simp only [List.map_cons, List.map_nil] at e0 e1
  unfold feT
  simp only [↓seqS_eq, ↓ifS_eq, ↓setS_eq, ↓retS_eq, ↓augItL_eq, ↓plS2_eq, augK1_l, augK2_i, augK3_s, ↓plX_eq, ↓dropX_eq, ↓setX_eq, ↓retX_eq, ↓augS_eq, ↓parS_2, parK_2, ↓asgS_eq, ↓rIf_eq, ↓rOr_eq, ↓vAnd_eq, seqK_nx, seqK_rt, seqK_bk, setK_eq, ifK_t, ifK_f, retK_eq, rIfK_t, rIfK_f, rOrK_t, rOrK_f, R.ok_bind, R.no_bind, getV_0, getV_s, List.set_cons_zero, List.set_cons_succ, ixM_lst, atI_0, atI_1, atI_2, atI_3, ofO_some, oEq_ii, oNe_ii, oGt_ii, oGe_ii, oLt_ii, oLe_ii, oAdd_ii, oAddI_ii, oSub_ii, asB_ok, intR_ok, asIm_ok, asI_ok, cutM_ints, setItL_0, setItL_1, setItL_2, setItL_3, subM_nil, updM_nil, env0, List.map_cons, List.map_nil, List.length_cons, List.length_nil, List.cons_append, List.nil_append, decide_true, decide_false, intM_int, mLst_one, Nat.zero_add, Nat.reduceAdd, Nat.reduceSub, List.replicate_succ, List.replicate_zero, if_true, if_false, wipeE_eq, wipeR_nil, wipeR_cons, List.contains_cons, List.contains_nil, Nat.reduceBEq, Bool.or_true, Bool.true_or, Bool.or_false, Bool.false_or, cond_true, cond_false, e0, hρ, e1]
section
variable (r0 r6 r7 r8 r9 r10 r13 r14 r15 r16 r17 r18 r19 : Option M)
theorem texts_loop (C : Addr) {fe : DL.Env → R (M × DL.Env)} (hfe : ∀ (b : M) (x : Option M), BagOk b → ∃ (t : List Nat) (b' : M), TxOk t ∧ BagOk b' ∧ fe [r0, some b, x, none, none, none, r6, r7, r8, r9, r10, none, none, r13, r14, r15, r16, r17, r18, r19] = .ok (mS (S t), [r0, some b', x, none, none, none, r6, r7, r8, r9, r10, none, none, r13, r14, r15, r16, r17, r18, r19])) :
    ∀ (ms : List M) (b : M), BagOk b → ∃ (ts : List (List Nat)) (b' : M), BagOk b' ∧ (∀ t ∈ ts, TxOk t) ∧ ts.length = ms.length ∧ lcXR (gSet 2) yesM fe [2] ms [r0, some b, none, none, none, none, r6, r7, r8, r9, r10, none, none, r13, r14, r15, r16, r17, r18, r19] = .ok (txs ts, [r0, some b', none, none, none, none, r6, r7, r8, r9, r10, none, none, r13, r14, r15, r16, r17, r18, r19])
  | [], b, h => ⟨[], b, h, by simp, rfl, rfl⟩
  | m :: ms, b, h => by
    obtain ⟨t, b1, ht, hb1, e1⟩ := hfe b (some m) h
    obtain ⟨ts, b2, hb2, hts, hl, e2⟩ := texts_loop C hfe ms b1 hb1
    refine ⟨t :: ts, b2, hb2, fun x hx => ?_, by rw [List.length_cons, List.length_cons, hl], ?_⟩
    · rcases List.mem_cons.mp hx with rfl | z
      · exact ht
      · exact hts x z
    · show (fe [r0, some b, some m, none, none, none, r6, r7, r8, r9, r10, none, none, r13, r14, r15, r16, r17, r18, r19] >>= fun x => lcXR (gSet 2) yesM fe [2] ms (wipeE [2] x.2) >>= fun y => R.ok (x.1 :: y.1, y.2)) = _
      rw [e1, R.ok_bind]
      have e3 : wipeE [2] [r0, some b1, some m, none, none, none, r6, r7, r8, r9, r10, none, none, r13, r14, r15, r16, r17, r18, r19] = [r0, some b1, none, none, none, none, r6, r7, r8, r9, r10, none, none, r13, r14, r15, r16, r17, r18, r19] := by
        simp only [wipeE_eq, wipeR_nil, wipeR_cons, List.contains_cons, List.contains_nil, Nat.zero_add, Nat.reduceAdd, Nat.reduceBEq, Bool.or_true, Bool.true_or, Bool.or_false, Bool.false_or, cond_true, cond_false]
      show (lcXR (gSet 2) yesM fe [2] ms (wipeE [2] [r0, some b1, some m, none, none, none, r6, r7, r8, r9, r10, none, none, r13, r14, r15, r16, r17, r18, r19]) >>= fun y => R.ok (mS (S t) :: y.1, y.2)) = _
      rw [e3, e2]
      rfl
theorem texts_run (C : Addr) {b : M} (h : BagOk b) : ∃ (ts : List (List Nat)) (b' : M), BagOk b' ∧ (∀ t ∈ ts, TxOk t) ∧ 1 ≤ ts.length ∧ ts.length ≤ 4 ∧ lw3 C [r0, some b, none, none, none, none, r6, r7, r8, r9, r10, none, none, r13, r14, r15, r16, r17, r18, r19] = .ok (.nx [r0, some b', none, some (.lst (txs ts)), none, none, r6, r7, r8, r9, r10, none, none, r13, r14, r15, r16, r17, r18, r19]) := by
  obtain ⟨v, b1, e1, hv, hv2, hb1⟩ := take_ok (many := 4) C h (by decide) (by decide)
  obtain ⟨n, rfl⟩ := Int.eq_ofNat_of_zero_le hv
  have hr := rng_ok (n := n + 1) (by omega)
  obtain ⟨ts, b2, hb2, hts, hl, e2⟩ := texts_loop r0 r6 r7 r8 r9 r10 r13 r14 r15 r16 r17 r18 r19 C (fe := feT C) (fun b x hb => text_run C hb [r0, some b, x, none, none, none, r6, r7, r8, r9, r10, none, none, r13, r14, r15, r16, r17, r18, r19] rfl) (rngM 0 ((n + 1 : Nat) : Int)) b1 hb1
  rw [rng_len] at hl
  have e3 : wipeE [2] [r0, some b1, none, none, none, none, r6, r7, r8, r9, r10, none, none, r13, r14, r15, r16, r17, r18, r19] = [r0, some b1, none, none, none, none, r6, r7, r8, r9, r10, none, none, r13, r14, r15, r16, r17, r18, r19] := by
    simp only [wipeE_eq, wipeR_nil, wipeR_cons, List.contains_cons, List.contains_nil, Nat.zero_add, Nat.reduceAdd, Nat.reduceBEq, Bool.or_true, Bool.true_or, Bool.or_false, Bool.false_or, cond_true, cond_false]
  refine ⟨ts, b2, hb2, hts, by omega, by omega, ?_⟩
  unfold lw3
  have lcX_run : ∀ {W : List Nat} {fi : DL.Env → R (List M × DL.Env)} {g : M → DL.Env → R DL.Env} {ft : DL.Env → R Bool} {fe : DL.Env → R (M × DL.Env)} {ρ ρ1 : DL.Env} {ms l : List M} {ρ2 : DL.Env}, fi ρ = .ok (ms, ρ1) → ms.length ≤ sizeLine → lcXR g ft fe W ms (wipeE W ρ1) = .ok (l, ρ2) → lcX W fi g ft fe ρ = .ok (.lst l, ρ2) := by
    intro W fi g ft fe ρ ρ1 ms l ρ2 h1 h2 h3
    unfold lcX
    rw [h1, R.ok_bind, if_pos h2, h3, R.ok_bind]
  rw [setX_eq, lcX_run (ms := rngM 0 ((n + 1 : Nat) : Int)) (ρ1 := [r0, some b1, none, none, none, none, r6, r7, r8, r9, r10, none, none, r13, r14, r15, r16, r17, r18, r19]) ?_ (by rw [rng_len]; exact sz (by omega)) (by rw [e3]; exact e2)]
  · rfl
  · have e5 : (consX (opX (pureX fun ρ => R.ok (mI 1) >>= asI) (fun ρ => (fun ρ => (R.ok (mI 4) >>= fun m => R.ok [] >>= fun ms => R.ok (m :: ms)) >>= fun ms => plX 1 [] (fun n => (_law_take_f C) n ms) ρ) ρ >>= fun x => asI x.1 >>= fun i => R.ok (i, x.2)) oAdd) (fun ρ => R.ok ([], ρ))) [r0, some b, none, none, none, none, r6, r7, r8, r9, r10, none, none, r13, r14, r15, r16, r17, r18, r19] = .ok ([.int ((n + 1 : Nat) : Int)], [r0, some b1, none, none, none, none, r6, r7, r8, r9, r10, none, none, r13, r14, r15, r16, r17, r18, r19]) := by
      simp only [↓seqS_eq, ↓ifS_eq, ↓setS_eq, ↓retS_eq, ↓augItL_eq, ↓plS2_eq, augK1_l, augK2_i, augK3_s, ↓plX_eq, ↓dropX_eq, ↓setX_eq, ↓retX_eq, ↓augS_eq, ↓parS_2, parK_2, ↓asgS_eq, ↓rIf_eq, ↓rOr_eq, ↓vAnd_eq, seqK_nx, seqK_rt, seqK_bk, setK_eq, ifK_t, ifK_f, retK_eq, rIfK_t, rIfK_f, rOrK_t, rOrK_f, R.ok_bind, R.no_bind, getV_0, getV_s, List.set_cons_zero, List.set_cons_succ, ixM_lst, atI_0, atI_1, atI_2, atI_3, ofO_some, oEq_ii, oNe_ii, oGt_ii, oGe_ii, oLt_ii, oLe_ii, oAdd_ii, oAddI_ii, oSub_ii, asB_ok, intR_ok, asIm_ok, asI_ok, cutM_ints, setItL_0, setItL_1, setItL_2, setItL_3, subM_nil, updM_nil, env0, List.map_cons, List.map_nil, List.length_cons, List.length_nil, List.cons_append, List.nil_append, decide_true, decide_false, intM_int, mLst_one, Nat.zero_add, Nat.reduceAdd, Nat.reduceSub, List.replicate_succ, List.replicate_zero, if_true, if_false, wipeE_eq, wipeR_nil, wipeR_cons, List.contains_cons, List.contains_nil, Nat.reduceBEq, Bool.or_true, Bool.true_or, Bool.or_false, Bool.false_or, cond_true, cond_false, consX, opX, pureX, e1]
      rw [show ((n + 1 : Nat) : Int) = 1 + (n : Int) by omega]
    show (consX _ _ _ >>= fun x => rng1 (x.1.map .im) >>= fun ms => R.ok (ms, x.2)) = _
    rw [e5, R.ok_bind]
    show (rng1 [mI ((n + 1 : Nat) : Int)] >>= fun ms => R.ok (ms, _)) = _
    rw [hr, R.ok_bind]
end
end DL.K52
/-! LT17: frames, cut and bent; the law. -/
namespace DL.K52
open PySem PySem.Spec PyProof.Rows L2 DL SX
theorem frm_17 {t : List Nat} (h : TxOk t) : (frm t).length ≤ 17 ∧ Asc (frm t) := by
  have h1 : (TL.numL t.length).length ≤ 1 := TL.numL_len (by decide) (by have := h.2; omega)
  have h2 : (TL.numL (chk t)).length ≤ 4 := TL.numL_len (by decide) (by have := chk_lt t; omega)
  have h3 := h.2
  refine ⟨?_, fun c hc => ?_⟩
  · unfold frm
    simp only [List.length_append, List.length_cons, List.length_nil]
    omega
  · unfold frm at hc
    simp only [List.mem_append, List.mem_cons, List.not_mem_nil, or_false] at hc
    rcases hc with z | z | z | z | z | z
    · have := TL.numL_digits _ c z; omega
    · omega
    · have := TL.numL_digits _ c z; omega
    · omega
    · exact h.1 c z
    · omega
theorem whole_ok : ∀ {ts : List (List Nat)}, (∀ t ∈ ts, TxOk t) → (whole ts).length ≤ 17 * ts.length ∧ Asc (whole ts)
  | [], _ => ⟨Nat.zero_le _, fun c hc => by cases hc⟩
  | t :: ts, h => by
    obtain ⟨h1, h2⟩ := whole_ok fun x hx => h x (List.mem_cons_of_mem _ hx)
    obtain ⟨h3, h4⟩ := frm_17 (h t (List.mem_cons_self ..))
    have e : whole (t :: ts) = frm t ++ whole ts := rfl
    rw [e, List.length_append, List.length_cons]
    refine ⟨by omega, fun c hc => ?_⟩
    rcases List.mem_append.mp hc with z | z
    · exact h4 c z
    · exact h2 c z
theorem whole_pos {ts : List (List Nat)} (h : 1 ≤ ts.length) : 1 ≤ (whole ts).length := by
  cases ts with
  | nil => simp at h
  | cons t ts =>
    have := frm_pos t
    have e : whole (t :: ts) = frm t ++ whole ts := rfl
    rw [e, List.length_append]
    omega
theorem joinL_nil : ∀ xs : List (List Nat), TL.joinL [] xs = xs.flatten
  | [] => rfl
  | [p] => by simp [TL.joinL]
  | p :: q :: r => by
    show p ++ ([] ++ TL.joinL [] (q :: r)) = p ++ (q :: r).flatten
    rw [joinL_nil (q :: r), List.nil_append]
theorem wts_S : ∀ xs : List (List Nat), ((xs.map S).map Str.length).sum = xs.flatten.length
  | [] => rfl
  | x :: xs => by
    rw [List.map_cons, List.map_cons, List.sum_cons, wts_S xs, S_len, List.flatten_cons, List.length_append]
theorem join_txs {xs : List (List Nat)} (h : xs.flatten.length ≤ 100000) : joinM (mS "") [.lst (txs xs)] = .ok (mS (S xs.flatten)) := by
  have e : (Str.ofString "" : Str) = S [] := by decide +kernel
  have e1 : allStr (txs xs) = some (xs.map S) := by
    have := allStr_of (xs.map S)
    rw [List.map_map] at this
    exact this
  show (match allStr (txs xs) with | some ys => (if (ys.map Str.length).sum + ys.length * (Str.ofString "").length ≤ 16777216 then R.ok (mS (Txt.join (Str.ofString "") ys)) else .no) | none => .no) = _
  rw [e1, e]
  show (if ((xs.map S).map Str.length).sum + (xs.map S).length * (S []).length ≤ 16777216 then R.ok (mS (Txt.join (S []) (xs.map S))) else .no) = _
  rw [S_len, wts_S, if_pos (by rw [List.length_nil, Nat.mul_zero]; omega), join_S, joinL_nil]
theorem dMs_txs : ∀ xs : List (List Nat), dMs (txs xs) = some (strD (xs.map S))
  | [] => by simp only [txs, List.map_nil, dMs, strD]
  | x :: xs => by
    have := dMs_txs xs
    simp only [txs, List.map_cons, dMs, dM, dI, strD] at this ⊢
    rw [this]
theorem ne_txs (xs : List (List Nat)) : oNe (.lst (txs xs)) (.lst (txs xs)) = .ok (mB false) := by
  have hd : dM (.lst (txs xs)) = some (.list (strD (xs.map S))) := by simp only [dM, dMs_txs, Option.map_some]
  have := eqD_same hd (by simp only [PyData.plain, strs_plain]) (by simp only [PyData.depth, strs_depth]; decide)
  show (eqD (.lst (txs xs)) (.lst (txs xs)) >>= fun b => R.ok (mB (!b))) = _
  rw [this]; rfl
section
variable (r0 r6 r7 r8 r9 r10 r13 r14 r15 r16 r17 r18 r19 : Option M) (C : Addr) {ts : List (List Nat)} (hts : ∀ t ∈ ts, TxOk t) (h4 : ts.length ≤ 4)
include hts h4
theorem lc_law (x1 x2 x4 x5 x11 x12 : Option M) : lcM [17] (fun ρ => (getV ρ 3 >>= itemsM)) (gSet 17) yesM (fun ρ => ((getV ρ 17 >>= fun m => R.ok [] >>= fun ms => R.ok (m :: ms)) >>= (_law_framed_f C))) [r0, x1, x2, some (.lst (txs ts)), x4, x5, r6, r7, r8, r9, r10, x11, x12, r13, r14, r15, r16, r17, r18, r19] = .ok (.lst (txs (ts.map frm))) := by
  rw [lcM_map (l := ts) (fun t => mS (S t)) (fun t => mS (S (frm t)))]
  · unfold txs
    rw [List.map_map]
    rfl
  · simp only [↓seqS_eq, ↓ifS_eq, ↓setS_eq, ↓retS_eq, ↓augItL_eq, ↓plS2_eq, augK1_l, augK2_i, augK3_s, ↓plX_eq, ↓dropX_eq, ↓setX_eq, ↓retX_eq, ↓augS_eq, ↓parS_2, parK_2, ↓asgS_eq, ↓rIf_eq, ↓rOr_eq, ↓vAnd_eq, seqK_nx, seqK_rt, seqK_bk, setK_eq, ifK_t, ifK_f, retK_eq, rIfK_t, rIfK_f, rOrK_t, rOrK_f, R.ok_bind, R.no_bind, getV_0, getV_s, List.set_cons_zero, List.set_cons_succ, ixM_lst, atI_0, atI_1, atI_2, atI_3, ofO_some, oEq_ii, oNe_ii, oGt_ii, oGe_ii, oLt_ii, oLe_ii, oAdd_ii, oAddI_ii, oSub_ii, asB_ok, intR_ok, asIm_ok, asI_ok, cutM_ints, setItL_0, setItL_1, setItL_2, setItL_3, subM_nil, updM_nil, env0, List.map_cons, List.map_nil, List.length_cons, List.length_nil, List.cons_append, List.nil_append, decide_true, decide_false, intM_int, mLst_one, Nat.zero_add, Nat.reduceAdd, Nat.reduceSub, List.replicate_succ, List.replicate_zero, if_true, if_false, wipeE_eq, wipeR_nil, wipeR_cons, List.contains_cons, List.contains_nil, Nat.reduceBEq, Bool.or_true, Bool.true_or, Bool.or_false, Bool.false_or, cond_true, cond_false, items_lst]
  · exact sz (by omega)
  · intro t ht
    obtain ⟨a, b⟩ := hts t ht
    have e := law_framed C (a := t) (by omega) a
    refine ⟨_, rfl, rfl, ?_⟩
    simp only [↓seqS_eq, ↓ifS_eq, ↓setS_eq, ↓retS_eq, ↓augItL_eq, ↓plS2_eq, augK1_l, augK2_i, augK3_s, ↓plX_eq, ↓dropX_eq, ↓setX_eq, ↓retX_eq, ↓augS_eq, ↓parS_2, parK_2, ↓asgS_eq, ↓rIf_eq, ↓rOr_eq, ↓vAnd_eq, seqK_nx, seqK_rt, seqK_bk, setK_eq, ifK_t, ifK_f, retK_eq, rIfK_t, rIfK_f, rOrK_t, rOrK_f, R.ok_bind, R.no_bind, getV_0, getV_s, List.set_cons_zero, List.set_cons_succ, ixM_lst, atI_0, atI_1, atI_2, atI_3, ofO_some, oEq_ii, oNe_ii, oGt_ii, oGe_ii, oLt_ii, oLe_ii, oAdd_ii, oAddI_ii, oSub_ii, asB_ok, intR_ok, asIm_ok, asI_ok, cutM_ints, setItL_0, setItL_1, setItL_2, setItL_3, subM_nil, updM_nil, env0, List.map_cons, List.map_nil, List.length_cons, List.length_nil, List.cons_append, List.nil_append, decide_true, decide_false, intM_int, mLst_one, Nat.zero_add, Nat.reduceAdd, Nat.reduceSub, List.replicate_succ, List.replicate_zero, if_true, if_false, wipeE_eq, wipeR_nil, wipeR_cons, List.contains_cons, List.contains_nil, Nat.reduceBEq, Bool.or_true, Bool.true_or, Bool.or_false, Bool.false_or, cond_true, cond_false, e]
theorem lc_own (x1 x2 x4 x5 x11 x12 : Option M) : lcM [17] (fun ρ => (getV ρ 3 >>= itemsM)) (gSet 17) yesM (fun ρ => ((getV ρ 17 >>= fun m => R.ok [] >>= fun ms => R.ok (m :: ms)) >>= (framed_f C))) [r0, x1, x2, some (.lst (txs ts)), x4, x5, r6, r7, r8, r9, r10, x11, x12, r13, r14, r15, r16, r17, r18, r19] = .ok (.lst (txs (ts.map frm))) := by
  rw [lcM_map (l := ts) (fun t => mS (S t)) (fun t => mS (S (frm t)))]
  · unfold txs
    rw [List.map_map]
    rfl
  · simp only [↓seqS_eq, ↓ifS_eq, ↓setS_eq, ↓retS_eq, ↓augItL_eq, ↓plS2_eq, augK1_l, augK2_i, augK3_s, ↓plX_eq, ↓dropX_eq, ↓setX_eq, ↓retX_eq, ↓augS_eq, ↓parS_2, parK_2, ↓asgS_eq, ↓rIf_eq, ↓rOr_eq, ↓vAnd_eq, seqK_nx, seqK_rt, seqK_bk, setK_eq, ifK_t, ifK_f, retK_eq, rIfK_t, rIfK_f, rOrK_t, rOrK_f, R.ok_bind, R.no_bind, getV_0, getV_s, List.set_cons_zero, List.set_cons_succ, ixM_lst, atI_0, atI_1, atI_2, atI_3, ofO_some, oEq_ii, oNe_ii, oGt_ii, oGe_ii, oLt_ii, oLe_ii, oAdd_ii, oAddI_ii, oSub_ii, asB_ok, intR_ok, asIm_ok, asI_ok, cutM_ints, setItL_0, setItL_1, setItL_2, setItL_3, subM_nil, updM_nil, env0, List.map_cons, List.map_nil, List.length_cons, List.length_nil, List.cons_append, List.nil_append, decide_true, decide_false, intM_int, mLst_one, Nat.zero_add, Nat.reduceAdd, Nat.reduceSub, List.replicate_succ, List.replicate_zero, if_true, if_false, wipeE_eq, wipeR_nil, wipeR_cons, List.contains_cons, List.contains_nil, Nat.reduceBEq, Bool.or_true, Bool.true_or, Bool.or_false, Bool.false_or, cond_true, cond_false, items_lst]
  · exact sz (by omega)
  · intro t ht
    obtain ⟨a, b⟩ := hts t ht
    have e := framed_ok C (a := t) (by omega) a
    refine ⟨_, rfl, rfl, ?_⟩
    simp only [↓seqS_eq, ↓ifS_eq, ↓setS_eq, ↓retS_eq, ↓augItL_eq, ↓plS2_eq, augK1_l, augK2_i, augK3_s, ↓plX_eq, ↓dropX_eq, ↓setX_eq, ↓retX_eq, ↓augS_eq, ↓parS_2, parK_2, ↓asgS_eq, ↓rIf_eq, ↓rOr_eq, ↓vAnd_eq, seqK_nx, seqK_rt, seqK_bk, setK_eq, ifK_t, ifK_f, retK_eq, rIfK_t, rIfK_f, rOrK_t, rOrK_f, R.ok_bind, R.no_bind, getV_0, getV_s, List.set_cons_zero, List.set_cons_succ, ixM_lst, atI_0, atI_1, atI_2, atI_3, ofO_some, oEq_ii, oNe_ii, oGt_ii, oGe_ii, oLt_ii, oLe_ii, oAdd_ii, oAddI_ii, oSub_ii, asB_ok, intR_ok, asIm_ok, asI_ok, cutM_ints, setItL_0, setItL_1, setItL_2, setItL_3, subM_nil, updM_nil, env0, List.map_cons, List.map_nil, List.length_cons, List.length_nil, List.cons_append, List.nil_append, decide_true, decide_false, intM_int, mLst_one, Nat.zero_add, Nat.reduceAdd, Nat.reduceSub, List.replicate_succ, List.replicate_zero, if_true, if_false, wipeE_eq, wipeR_nil, wipeR_cons, List.contains_cons, List.contains_nil, Nat.reduceBEq, Bool.or_true, Bool.true_or, Bool.or_false, Bool.false_or, cond_true, cond_false, e]
theorem q4 (x1 x2 x4 x5 x11 x12 : Option M) : lw4 C [r0, x1, x2, some (.lst (txs ts)), x4, x5, r6, r7, r8, r9, r10, x11, x12, r13, r14, r15, r16, r17, r18, r19] = .ok (.nx [r0, x1, x2, some (.lst (txs ts)), some (mS (S (whole ts))), x5, r6, r7, r8, r9, r10, x11, x12, r13, r14, r15, r16, r17, r18, r19]) := by
  have e1 := lc_law r0 r6 r7 r8 r9 r10 r13 r14 r15 r16 r17 r18 r19 C hts h4 x1 x2 x4 x5 x11 x12
  obtain ⟨w1, _⟩ := whole_ok hts
  have e2 : joinM (mS "") [.lst (txs (ts.map frm))] = .ok (mS (S (whole ts))) := join_txs (xs := ts.map frm) (by
    show (whole ts).length ≤ 100000
    omega)
  simp only [R.ok_bind] at e1
  unfold lw4
  simp only [↓seqS_eq, ↓ifS_eq, ↓setS_eq, ↓retS_eq, ↓augItL_eq, ↓plS2_eq, augK1_l, augK2_i, augK3_s, ↓plX_eq, ↓dropX_eq, ↓setX_eq, ↓retX_eq, ↓augS_eq, ↓parS_2, parK_2, ↓asgS_eq, ↓rIf_eq, ↓rOr_eq, ↓vAnd_eq, seqK_nx, seqK_rt, seqK_bk, setK_eq, ifK_t, ifK_f, retK_eq, rIfK_t, rIfK_f, rOrK_t, rOrK_f, R.ok_bind, R.no_bind, getV_0, getV_s, List.set_cons_zero, List.set_cons_succ, ixM_lst, atI_0, atI_1, atI_2, atI_3, ofO_some, oEq_ii, oNe_ii, oGt_ii, oGe_ii, oLt_ii, oLe_ii, oAdd_ii, oAddI_ii, oSub_ii, asB_ok, intR_ok, asIm_ok, asI_ok, cutM_ints, setItL_0, setItL_1, setItL_2, setItL_3, subM_nil, updM_nil, env0, List.map_cons, List.map_nil, List.length_cons, List.length_nil, List.cons_append, List.nil_append, decide_true, decide_false, intM_int, mLst_one, Nat.zero_add, Nat.reduceAdd, Nat.reduceSub, List.replicate_succ, List.replicate_zero, if_true, if_false, wipeE_eq, wipeR_nil, wipeR_cons, List.contains_cons, List.contains_nil, Nat.reduceBEq, Bool.or_true, Bool.true_or, Bool.or_false, Bool.false_or, cond_true, cond_false, e1, e2]
theorem q5 (x1 x2 x4 x5 x11 x12 : Option M) : lw5 C [r0, x1, x2, some (.lst (txs ts)), x4, x5, r6, r7, r8, r9, r10, x11, x12, r13, r14, r15, r16, r17, r18, r19] = .ok (.nx [r0, x1, x2, some (.lst (txs ts)), x4, x5, r6, r7, r8, r9, r10, x11, x12, r13, r14, r15, r16, r17, r18, r19]) := by
  have e1 := lc_law r0 r6 r7 r8 r9 r10 r13 r14 r15 r16 r17 r18 r19 C hts h4 x1 x2 x4 x5 x11 x12
  have e2 := lc_own r0 r6 r7 r8 r9 r10 r13 r14 r15 r16 r17 r18 r19 C hts h4 x1 x2 x4 x5 x11 x12
  have e3 := ne_txs (ts.map frm)
  simp only [R.ok_bind] at e1 e2
  unfold lw5
  simp only [↓seqS_eq, ↓ifS_eq, ↓setS_eq, ↓retS_eq, ↓augItL_eq, ↓plS2_eq, augK1_l, augK2_i, augK3_s, ↓plX_eq, ↓dropX_eq, ↓setX_eq, ↓retX_eq, ↓augS_eq, ↓parS_2, parK_2, ↓asgS_eq, ↓rIf_eq, ↓rOr_eq, ↓vAnd_eq, seqK_nx, seqK_rt, seqK_bk, setK_eq, ifK_t, ifK_f, retK_eq, rIfK_t, rIfK_f, rOrK_t, rOrK_f, R.ok_bind, R.no_bind, getV_0, getV_s, List.set_cons_zero, List.set_cons_succ, ixM_lst, atI_0, atI_1, atI_2, atI_3, ofO_some, oEq_ii, oNe_ii, oGt_ii, oGe_ii, oLt_ii, oLe_ii, oAdd_ii, oAddI_ii, oSub_ii, asB_ok, intR_ok, asIm_ok, asI_ok, cutM_ints, setItL_0, setItL_1, setItL_2, setItL_3, subM_nil, updM_nil, env0, List.map_cons, List.map_nil, List.length_cons, List.length_nil, List.cons_append, List.nil_append, decide_true, decide_false, intM_int, mLst_one, Nat.zero_add, Nat.reduceAdd, Nat.reduceSub, List.replicate_succ, List.replicate_zero, if_true, if_false, wipeE_eq, wipeR_nil, wipeR_cons, List.contains_cons, List.contains_nil, Nat.reduceBEq, Bool.or_true, Bool.true_or, Bool.or_false, Bool.false_or, cond_true, cond_false, e1, e2, e3, nextS]
theorem q6 (x1 x2 x5 x11 x12 : Option M) : lw6 C [r0, x1, x2, some (.lst (txs ts)), some (mS (S (whole ts))), x5, r6, r7, r8, r9, r10, x11, x12, r13, r14, r15, r16, r17, r18, r19] = .ok (.nx [r0, x1, x2, some (.lst (txs ts)), some (mS (S (whole ts))), x5, r6, r7, r8, r9, r10, x11, x12, r13, r14, r15, r16, r17, r18, r19]) := by
  obtain ⟨w1, w2⟩ := whole_ok hts
  have hf := Frs.whole ts
  have hs := hf.sum
  have e1 : frames_in_f C [mS (S (whole ts))] = .ok (mT [.tup (ts.map fun x => I.str (S x)), .int 0]) := frames_ok C (by omega) w2 hf
  have e2 := tuple_txs ts
  have e3 : _law_alike_f C [mT [.tup (ts.map fun x => I.str (S x)), .int 0], mT [.tup (ts.map fun x => I.str (S x)), .int 0]] = .ok (mB true) := by
    rw [str_S]
    refine alike_tup C (n := 0) (fun x hx c hc => ?_) (by omega) (by omega)
    obtain ⟨y, hy, rfl⟩ := List.mem_map.mp hx
    exact w2 c (hs.2 y hy c hc)
  unfold lw6
  simp only [↓seqS_eq, ↓ifS_eq, ↓setS_eq, ↓retS_eq, ↓augItL_eq, ↓plS2_eq, augK1_l, augK2_i, augK3_s, ↓plX_eq, ↓dropX_eq, ↓setX_eq, ↓retX_eq, ↓augS_eq, ↓parS_2, parK_2, ↓asgS_eq, ↓rIf_eq, ↓rOr_eq, ↓vAnd_eq, seqK_nx, seqK_rt, seqK_bk, setK_eq, ifK_t, ifK_f, retK_eq, rIfK_t, rIfK_f, rOrK_t, rOrK_f, R.ok_bind, R.no_bind, getV_0, getV_s, List.set_cons_zero, List.set_cons_succ, ixM_lst, atI_0, atI_1, atI_2, atI_3, ofO_some, oEq_ii, oNe_ii, oGt_ii, oGe_ii, oLt_ii, oLe_ii, oAdd_ii, oAddI_ii, oSub_ii, asB_ok, intR_ok, asIm_ok, asI_ok, cutM_ints, setItL_0, setItL_1, setItL_2, setItL_3, subM_nil, updM_nil, env0, List.map_cons, List.map_nil, List.length_cons, List.length_nil, List.cons_append, List.nil_append, decide_true, decide_false, intM_int, mLst_one, Nat.zero_add, Nat.reduceAdd, Nat.reduceSub, List.replicate_succ, List.replicate_zero, if_true, if_false, wipeE_eq, wipeR_nil, wipeR_cons, List.contains_cons, List.contains_nil, Nat.reduceBEq, Bool.or_true, Bool.true_or, Bool.or_false, Bool.false_or, cond_true, cond_false, e1, e2, mTup2, e3, Bool.not_true, nextS]
theorem q7_0 (x1 x2 x11 x12 : Option M) (j : Nat) : lw7_0 C [r0, x1, x2, some (.lst (txs ts)), some (mS (S (whole ts))), some (mI (j : Nat)), r6, r7, r8, r9, r10, x11, x12, r13, r14, r15, r16, r17, r18, r19] = .ok (.nx [r0, x1, x2, some (.lst (txs ts)), some (mS (S (whole ts))), some (mI (j : Nat)), r6, r7, r8, r9, r10, x11, x12, r13, r14, r15, r16, r17, r18, r19]) := by
  obtain ⟨w1, w2⟩ := whole_ok hts
  obtain ⟨m, e1, e2, e3⟩ := frames_alike C (a := (whole ts).take j) (by rw [List.length_take]; omega) (w2.sub fun c hc => List.mem_of_mem_take hc)
  have e4 : cutM (mS (S (whole ts))) none (some (j : Int)) = .ok (mS (S ((whole ts).take j))) := by rw [cutM_S _ _ (by omega), cutA_t]
  unfold lw7_0
  simp only [↓seqS_eq, ↓ifS_eq, ↓setS_eq, ↓retS_eq, ↓augItL_eq, ↓plS2_eq, augK1_l, augK2_i, augK3_s, ↓plX_eq, ↓dropX_eq, ↓setX_eq, ↓retX_eq, ↓augS_eq, ↓parS_2, parK_2, ↓asgS_eq, ↓rIf_eq, ↓rOr_eq, ↓vAnd_eq, seqK_nx, seqK_rt, seqK_bk, setK_eq, ifK_t, ifK_f, retK_eq, rIfK_t, rIfK_f, rOrK_t, rOrK_f, R.ok_bind, R.no_bind, getV_0, getV_s, List.set_cons_zero, List.set_cons_succ, ixM_lst, atI_0, atI_1, atI_2, atI_3, ofO_some, oEq_ii, oNe_ii, oGt_ii, oGe_ii, oLt_ii, oLe_ii, oAdd_ii, oAddI_ii, oSub_ii, asB_ok, intR_ok, asIm_ok, asI_ok, cutM_ints, setItL_0, setItL_1, setItL_2, setItL_3, subM_nil, updM_nil, env0, List.map_cons, List.map_nil, List.length_cons, List.length_nil, List.cons_append, List.nil_append, decide_true, decide_false, intM_int, mLst_one, Nat.zero_add, Nat.reduceAdd, Nat.reduceSub, List.replicate_succ, List.replicate_zero, if_true, if_false, wipeE_eq, wipeR_nil, wipeR_cons, List.contains_cons, List.contains_nil, Nat.reduceBEq, Bool.or_true, Bool.true_or, Bool.or_false, Bool.false_or, cond_true, cond_false, e1, e2, e3, e4, Bool.not_true, nextS]
theorem q7 (x1 x2 x11 x12 : Option M) : lw7 C [r0, x1, x2, some (.lst (txs ts)), some (mS (S (whole ts))), none, r6, r7, r8, r9, r10, x11, x12, r13, r14, r15, r16, r17, r18, r19] = .ok (.nx [r0, x1, x2, some (.lst (txs ts)), some (mS (S (whole ts))), none, r6, r7, r8, r9, r10, x11, x12, r13, r14, r15, r16, r17, r18, r19]) := by
  obtain ⟨w1, w2⟩ := whole_ok hts
  have l1 := len_S (a := whole ts) (sz (by omega))
  have e1 : ∀ ρ : DL.Env, getV ρ 4 = .ok (mS (S (whole ts))) → (pureX fun ρ => (((((getV ρ 4 >>= fun m => R.ok [] >>= fun ms => R.ok (m :: ms)) >>= lenM) >>= fun x => R.ok (mI 1) >>= fun y => oAdd x y) >>= fun m => R.ok [] >>= fun ms => R.ok (m :: ms)) >>= rng1)) ρ = .ok (rngM 0 (((whole ts).length + 1 : Nat) : Int), ρ) := fun ρ hρ => pure_run (rng_run (n := (whole ts).length + 1) (by
    simp only [↓seqS_eq, ↓ifS_eq, ↓setS_eq, ↓retS_eq, ↓augItL_eq, ↓plS2_eq, augK1_l, augK2_i, augK3_s, ↓plX_eq, ↓dropX_eq, ↓setX_eq, ↓retX_eq, ↓augS_eq, ↓parS_2, parK_2, ↓asgS_eq, ↓rIf_eq, ↓rOr_eq, ↓vAnd_eq, seqK_nx, seqK_rt, seqK_bk, setK_eq, ifK_t, ifK_f, retK_eq, rIfK_t, rIfK_f, rOrK_t, rOrK_f, R.ok_bind, R.no_bind, getV_0, getV_s, List.set_cons_zero, List.set_cons_succ, ixM_lst, atI_0, atI_1, atI_2, atI_3, ofO_some, oEq_ii, oNe_ii, oGt_ii, oGe_ii, oLt_ii, oLe_ii, oAdd_ii, oAddI_ii, oSub_ii, asB_ok, intR_ok, asIm_ok, asI_ok, cutM_ints, setItL_0, setItL_1, setItL_2, setItL_3, subM_nil, updM_nil, env0, List.map_cons, List.map_nil, List.length_cons, List.length_nil, List.cons_append, List.nil_append, decide_true, decide_false, intM_int, mLst_one, Nat.zero_add, Nat.reduceAdd, Nat.reduceSub, List.replicate_succ, List.replicate_zero, if_true, if_false, wipeE_eq, wipeR_nil, wipeR_cons, List.contains_cons, List.contains_nil, Nat.reduceBEq, Bool.or_true, Bool.true_or, Bool.or_false, Bool.false_or, cond_true, cond_false, hρ, l1]
    exact congrArg (fun z => R.ok [mI z]) (Int.natCast_succ _).symm) (by omega))
  obtain ⟨ρ', e2, x5, h2⟩ := forR_inv (P := fun _ ρ => ∃ x5 : Option M, ρ = [r0, x1, x2, some (.lst (txs ts)), some (mS (S (whole ts))), x5, r6, r7, r8, r9, r10, x11, x12, r13, r14, r15, r16, r17, r18, r19]) (N := (whole ts).length + 1) (g := gSet 5) (fb := lw7_b C) (rngM 0 (((whole ts).length + 1 : Nat) : Int)) 0 _ (fun m hm k ρ _ h => by
      obtain ⟨x5, rfl⟩ := h
      obtain ⟨j, _, rfl⟩ := List.mem_map.mp hm
      refine ⟨_, _, rfl, ?_, some (mI (0 + (j : Nat))), rfl⟩
      rw [Int.zero_add]
      exact q7_0 r0 r6 r7 r8 r9 r10 r13 r14 r15 r16 r17 r18 r19 C hts h4 x1 x2 x11 x12 j) ⟨none, rfl⟩ (by rw [rng_len]; omega)
  subst h2
  unfold lw7
  rw [forS_nx (e1 _ rfl) e2]
  simp only [wipeE_eq, wipeR_nil, wipeR_cons, List.contains_cons, List.contains_nil, Nat.zero_add, Nat.reduceAdd, Nat.reduceBEq, Bool.or_true, Bool.true_or, Bool.or_false, Bool.false_or, cond_true, cond_false]
end
def five2 : List Str := ["x", "0", " ", "\n", "7"]
theorem five2_ok : ∀ x ∈ five2, AscS x ∧ x.cps.toList.length ≤ 1 := by
  unfold five2 AscS
  decide +kernel
section
variable (r0 r6 r7 r8 r9 r10 r13 r14 r15 r16 r17 r18 r19 : Option M) (C : Addr) {ts : List (List Nat)} (hts : ∀ t ∈ ts, TxOk t) (h4 : ts.length ≤ 4) (h1 : 1 ≤ ts.length)
include hts h4 h1
theorem q8_0 {b : M} (hb : BagOk b) (x2 x5 x11 x12 : Option M) : ∃ (j : Nat) (b' : M), j < (whole ts).length ∧ BagOk b' ∧ lw8_0 C [r0, some b, x2, some (.lst (txs ts)), some (mS (S (whole ts))), x5, r6, r7, r8, r9, r10, x11, x12, r13, r14, r15, r16, r17, r18, r19] = .ok (.nx [r0, some b', x2, some (.lst (txs ts)), some (mS (S (whole ts))), x5, r6, r7, r8, r9, r10, some (mI (j : Nat)), x12, r13, r14, r15, r16, r17, r18, r19]) := by
  obtain ⟨w1, w2⟩ := whole_ok hts
  have w3 := whole_pos h1
  have l1 := len_S (a := whole ts) (sz (by omega))
  obtain ⟨v, b', e1, hv, hv2, hb'⟩ := take_ok (many := ((whole ts).length : Nat)) C hb (by omega) (by omega)
  obtain ⟨j, rfl⟩ := Int.eq_ofNat_of_zero_le hv
  refine ⟨j, b', by omega, hb', ?_⟩
  unfold lw8_0
  simp only [↓seqS_eq, ↓ifS_eq, ↓setS_eq, ↓retS_eq, ↓augItL_eq, ↓plS2_eq, augK1_l, augK2_i, augK3_s, ↓plX_eq, ↓dropX_eq, ↓setX_eq, ↓retX_eq, ↓augS_eq, ↓parS_2, parK_2, ↓asgS_eq, ↓rIf_eq, ↓rOr_eq, ↓vAnd_eq, seqK_nx, seqK_rt, seqK_bk, setK_eq, ifK_t, ifK_f, retK_eq, rIfK_t, rIfK_f, rOrK_t, rOrK_f, R.ok_bind, R.no_bind, getV_0, getV_s, List.set_cons_zero, List.set_cons_succ, ixM_lst, atI_0, atI_1, atI_2, atI_3, ofO_some, oEq_ii, oNe_ii, oGt_ii, oGe_ii, oLt_ii, oLe_ii, oAdd_ii, oAddI_ii, oSub_ii, asB_ok, intR_ok, asIm_ok, asI_ok, cutM_ints, setItL_0, setItL_1, setItL_2, setItL_3, subM_nil, updM_nil, env0, List.map_cons, List.map_nil, List.length_cons, List.length_nil, List.cons_append, List.nil_append, decide_true, decide_false, intM_int, mLst_one, Nat.zero_add, Nat.reduceAdd, Nat.reduceSub, List.replicate_succ, List.replicate_zero, if_true, if_false, wipeE_eq, wipeR_nil, wipeR_cons, List.contains_cons, List.contains_nil, Nat.reduceBEq, Bool.or_true, Bool.true_or, Bool.or_false, Bool.false_or, cond_true, cond_false, l1, e1]
theorem q8_1 {b : M} (hb : BagOk b) (x2 x5 x12 : Option M) {j : Nat} (hj : j < (whole ts).length) : ∃ (a : List Nat) (b' : M), a.length ≤ 1000 ∧ Asc a ∧ BagOk b' ∧ lw8_1 C [r0, some b, x2, some (.lst (txs ts)), some (mS (S (whole ts))), x5, r6, r7, r8, r9, r10, some (mI (j : Nat)), x12, r13, r14, r15, r16, r17, r18, r19] = .ok (.nx [r0, some b', x2, some (.lst (txs ts)), some (mS (S (whole ts))), x5, r6, r7, r8, r9, r10, some (mI (j : Nat)), some (mS (S a)), r13, r14, r15, r16, r17, r18, r19]) := by
  obtain ⟨w1, w2⟩ := whole_ok hts
  obtain ⟨y, b1, hy, e1, hb1⟩ := some_ok (x := .str "x") (l := [.str "0", .str " ", .str "\n", .str "7"]) C hb (by decide)
  obtain ⟨x, hx, rfl⟩ : ∃ x, x ∈ five2 ∧ y = .str x := by
    rw [show [I.str "x", .str "0", .str " ", .str "\n", .str "7"] = five2.map I.str from rfl] at hy
    obtain ⟨n, hn, rfl⟩ := List.mem_map.mp hy
    exact ⟨n, hn, rfl⟩
  obtain ⟨t1, t2⟩ := five2_ok x hx
  unfold AscS at t1
  rw [← S_eta x] at e1
  generalize x.cps.toList = t at *
  have e0 : mLst [mS "x", mS "0", mS " ", mS "\n", mS "7"] = .ok (.lst ([.str "x", .str "0", .str " ", .str "\n", .str "7"].map M.im)) := rfl
  have e2 : cutM (mS (S (whole ts))) none (some (j : Int)) = .ok (mS (S ((whole ts).take j))) := by rw [cutM_S _ _ (by omega), cutA_t]
  have e3 : cutM (mS (S (whole ts))) (some ((j : Int) + 1)) none = .ok (mS (S ((whole ts).drop (j + 1)))) := by
    rw [cutM_S _ _ (by omega), show ((j : Int) + 1) = ((j + 1 : Nat) : Int) by omega, cutA_n]
  have e4 : oAdd (mS (S ((whole ts).take j))) (.im (.str (S t))) = .ok (mS (S ((whole ts).take j ++ t))) := add_S (by rw [List.length_take]; omega)
  have e5 : oAdd (mS (S ((whole ts).take j ++ t))) (mS (S ((whole ts).drop (j + 1)))) = .ok (mS (S ((whole ts).take j ++ t ++ (whole ts).drop (j + 1)))) := add_S (by rw [List.length_append, List.length_take, List.length_drop]; omega)
  refine ⟨(whole ts).take j ++ t ++ (whole ts).drop (j + 1), b1, ?_, ?_, hb1, ?_⟩
  · rw [List.length_append, List.length_append, List.length_take, List.length_drop]
    omega
  · intro c hc
    rcases List.mem_append.mp hc with z | z
    · rcases List.mem_append.mp z with z | z
      · exact w2 c (List.mem_of_mem_take z)
      · exact t1 c z
    · exact w2 c (List.mem_of_mem_drop z)
  · simp only [List.map_cons, List.map_nil] at e0 e1
    unfold lw8_1
    simp only [↓seqS_eq, ↓ifS_eq, ↓setS_eq, ↓retS_eq, ↓augItL_eq, ↓plS2_eq, augK1_l, augK2_i, augK3_s, ↓plX_eq, ↓dropX_eq, ↓setX_eq, ↓retX_eq, ↓augS_eq, ↓parS_2, parK_2, ↓asgS_eq, ↓rIf_eq, ↓rOr_eq, ↓vAnd_eq, seqK_nx, seqK_rt, seqK_bk, setK_eq, ifK_t, ifK_f, retK_eq, rIfK_t, rIfK_f, rOrK_t, rOrK_f, R.ok_bind, R.no_bind, getV_0, getV_s, List.set_cons_zero, List.set_cons_succ, ixM_lst, atI_0, atI_1, atI_2, atI_3, ofO_some, oEq_ii, oNe_ii, oGt_ii, oGe_ii, oLt_ii, oLe_ii, oAdd_ii, oAddI_ii, oSub_ii, asB_ok, intR_ok, asIm_ok, asI_ok, cutM_ints, setItL_0, setItL_1, setItL_2, setItL_3, subM_nil, updM_nil, env0, List.map_cons, List.map_nil, List.length_cons, List.length_nil, List.cons_append, List.nil_append, decide_true, decide_false, intM_int, mLst_one, Nat.zero_add, Nat.reduceAdd, Nat.reduceSub, List.replicate_succ, List.replicate_zero, if_true, if_false, wipeE_eq, wipeR_nil, wipeR_cons, List.contains_cons, List.contains_nil, Nat.reduceBEq, Bool.or_true, Bool.true_or, Bool.or_false, Bool.false_or, cond_true, cond_false, opX, pureX, e0, e1, e2, e3, e4, e5]
theorem q8_2 {a : List Nat} (hl : a.length ≤ 1000) (ha : Asc a) (x1 x2 x3 x4 x5 x11 : Option M) : lw8_2 C [r0, x1, x2, x3, x4, x5, r6, r7, r8, r9, r10, x11, some (mS (S a)), r13, r14, r15, r16, r17, r18, r19] = .ok (.nx [r0, x1, x2, x3, x4, x5, r6, r7, r8, r9, r10, x11, some (mS (S a)), r13, r14, r15, r16, r17, r18, r19]) := by
  obtain ⟨m, e1, e2, e3⟩ := frames_alike C hl ha
  unfold lw8_2
  simp only [↓seqS_eq, ↓ifS_eq, ↓setS_eq, ↓retS_eq, ↓augItL_eq, ↓plS2_eq, augK1_l, augK2_i, augK3_s, ↓plX_eq, ↓dropX_eq, ↓setX_eq, ↓retX_eq, ↓augS_eq, ↓parS_2, parK_2, ↓asgS_eq, ↓rIf_eq, ↓rOr_eq, ↓vAnd_eq, seqK_nx, seqK_rt, seqK_bk, setK_eq, ifK_t, ifK_f, retK_eq, rIfK_t, rIfK_f, rOrK_t, rOrK_f, R.ok_bind, R.no_bind, getV_0, getV_s, List.set_cons_zero, List.set_cons_succ, ixM_lst, atI_0, atI_1, atI_2, atI_3, ofO_some, oEq_ii, oNe_ii, oGt_ii, oGe_ii, oLt_ii, oLe_ii, oAdd_ii, oAddI_ii, oSub_ii, asB_ok, intR_ok, asIm_ok, asI_ok, cutM_ints, setItL_0, setItL_1, setItL_2, setItL_3, subM_nil, updM_nil, env0, List.map_cons, List.map_nil, List.length_cons, List.length_nil, List.cons_append, List.nil_append, decide_true, decide_false, intM_int, mLst_one, Nat.zero_add, Nat.reduceAdd, Nat.reduceSub, List.replicate_succ, List.replicate_zero, if_true, if_false, wipeE_eq, wipeR_nil, wipeR_cons, List.contains_cons, List.contains_nil, Nat.reduceBEq, Bool.or_true, Bool.true_or, Bool.or_false, Bool.false_or, cond_true, cond_false, e1, e2, e3, Bool.not_true, nextS]
theorem q8 {b : M} (hb : BagOk b) (x2 x5 : Option M) : ∃ ρ', lw8 C [r0, some b, x2, some (.lst (txs ts)), some (mS (S (whole ts))), x5, r6, r7, r8, r9, r10, none, none, r13, r14, r15, r16, r17, r18, r19] = .ok (.nx ρ') := by
  have e1 : ∀ ρ : DL.Env, (pureX fun ρ => ((R.ok (mI 8) >>= fun m => R.ok [] >>= fun ms => R.ok (m :: ms)) >>= rng1)) ρ = .ok (rngM 0 ((8 : Nat) : Int), ρ) := fun ρ => pure_run (rng_run (n := 8) rfl (by omega))
  obtain ⟨ρ', e2, _⟩ := forR_inv (P := fun _ ρ => ∃ (b : M) (x2 x11 x12 : Option M), BagOk b ∧ ρ = [r0, some b, x2, some (.lst (txs ts)), some (mS (S (whole ts))), x5, r6, r7, r8, r9, r10, x11, x12, r13, r14, r15, r16, r17, r18, r19]) (N := 8) (g := gSet 2) (fb := lw8_b C) (rngM 0 ((8 : Nat) : Int)) 0 [r0, some b, x2, some (.lst (txs ts)), some (mS (S (whole ts))), x5, r6, r7, r8, r9, r10, none, none, r13, r14, r15, r16, r17, r18, r19] (fun m hm k ρ _ h => by
      obtain ⟨b, x2, x11, x12, hb, rfl⟩ := h
      obtain ⟨j, b1, hj, hb1, g1⟩ := q8_0 r0 r6 r7 r8 r9 r10 r13 r14 r15 r16 r17 r18 r19 C hts h4 h1 hb (some m) x5 x11 x12
      obtain ⟨a, b2, a1, a2, hb2, g2⟩ := q8_1 r0 r6 r7 r8 r9 r10 r13 r14 r15 r16 r17 r18 r19 C hts h4 h1 hb1 (some m) x5 x12 hj
      have g3 := q8_2 r0 r6 r7 r8 r9 r10 r13 r14 r15 r16 r17 r18 r19 C hts h4 h1 a1 a2 (some b2) (some m) (some (.lst (txs ts))) (some (mS (S (whole ts)))) x5 (some (mI (j : Nat)))
      have g4 : lw8_b C [r0, some b, some m, some (.lst (txs ts)), some (mS (S (whole ts))), x5, r6, r7, r8, r9, r10, x11, x12, r13, r14, r15, r16, r17, r18, r19] = .ok (.nx [r0, some b2, some m, some (.lst (txs ts)), some (mS (S (whole ts))), x5, r6, r7, r8, r9, r10, some (mI (j : Nat)), some (mS (S a)), r13, r14, r15, r16, r17, r18, r19]) := by
        unfold lw8_b
        rw [seqS_eq, g1, R.ok_bind, seqK_nx, seqS_eq, g2, R.ok_bind, seqK_nx, g3]
      exact ⟨_, _, rfl, g4, b2, some m, some (mI (j : Nat)), some (mS (S a)), hb2, rfl⟩)
    ⟨b, x2, none, none, hb, rfl⟩ (by rw [rng_len]; omega)
  unfold lw8
  exact ⟨_, forS_nx (e1 _) e2⟩
end
theorem law_true (C_Disk : Addr) (ns : List Int) (hl : ns.length ≤ 63) : law_f C_Disk [.scr ns] = .ok (mB true) := by
  obtain ⟨b0, e0, hb0⟩ := bag_ok C_Disk ns hl
  have g0 : lw0 C_Disk (env0 20 [.scr ns]) = .ok (.nx [some (.scr ns), some b0, none, none, none, none, none, none, none, none, none, none, none, none, none, none, none, none, none, none]) := by
    unfold lw0
    simp only [↓seqS_eq, ↓ifS_eq, ↓setS_eq, ↓retS_eq, ↓augItL_eq, ↓plS2_eq, augK1_l, augK2_i, augK3_s, ↓plX_eq, ↓dropX_eq, ↓setX_eq, ↓retX_eq, ↓augS_eq, ↓parS_2, parK_2, ↓asgS_eq, ↓rIf_eq, ↓rOr_eq, ↓vAnd_eq, seqK_nx, seqK_rt, seqK_bk, setK_eq, ifK_t, ifK_f, retK_eq, rIfK_t, rIfK_f, rOrK_t, rOrK_f, R.ok_bind, R.no_bind, getV_0, getV_s, List.set_cons_zero, List.set_cons_succ, ixM_lst, atI_0, atI_1, atI_2, atI_3, ofO_some, oEq_ii, oNe_ii, oGt_ii, oGe_ii, oLt_ii, oLe_ii, oAdd_ii, oAddI_ii, oSub_ii, asB_ok, intR_ok, asIm_ok, asI_ok, cutM_ints, setItL_0, setItL_1, setItL_2, setItL_3, subM_nil, updM_nil, env0, List.map_cons, List.map_nil, List.length_cons, List.length_nil, List.cons_append, List.nil_append, decide_true, decide_false, intM_int, mLst_one, Nat.zero_add, Nat.reduceAdd, Nat.reduceSub, List.replicate_succ, List.replicate_zero, if_true, if_false, wipeE_eq, wipeR_nil, wipeR_cons, List.contains_cons, List.contains_nil, Nat.reduceBEq, Bool.or_true, Bool.true_or, Bool.or_false, Bool.false_or, cond_true, cond_false, e0]
  have g1 : lw1 C_Disk [some (.scr ns), some b0, none, none, none, none, none, none, none, none, none, none, none, none, none, none, none, none, none, none] = .ok (.nx [some (.scr ns), some b0, none, none, none, none, some (ob C_Disk [] []), some (D []), some (lo []), none, none, none, none, none, none, none, none, none, none, none]) := by
    have e1 : mTup [ob C_Disk [] [], .dic [], .lst []] = .ok (.tpm [ob C_Disk [] [], .dic [], .lst []]) := rfl
    have e2 : ∀ ρ : DL.Env, gTupM 3 (gConsM (gSet 6) (gConsM (gSet 7) (gConsM (gSet 8) gNilM))) (.tpm [ob C_Disk [] [], .dic [], .lst []]) ρ = .ok (((ρ.set 6 (some (ob C_Disk [] []))).set 7 (some (.dic []))).set 8 (some (.lst []))) := fun ρ => rfl
    unfold lw1
    simp only [↓seqS_eq, ↓ifS_eq, ↓setS_eq, ↓retS_eq, ↓augItL_eq, ↓plS2_eq, augK1_l, augK2_i, augK3_s, ↓plX_eq, ↓dropX_eq, ↓setX_eq, ↓retX_eq, ↓augS_eq, ↓parS_2, parK_2, ↓asgS_eq, ↓rIf_eq, ↓rOr_eq, ↓vAnd_eq, seqK_nx, seqK_rt, seqK_bk, setK_eq, ifK_t, ifK_f, retK_eq, rIfK_t, rIfK_f, rOrK_t, rOrK_f, R.ok_bind, R.no_bind, getV_0, getV_s, List.set_cons_zero, List.set_cons_succ, ixM_lst, atI_0, atI_1, atI_2, atI_3, ofO_some, oEq_ii, oNe_ii, oGt_ii, oGe_ii, oLt_ii, oLe_ii, oAdd_ii, oAddI_ii, oSub_ii, asB_ok, intR_ok, asIm_ok, asI_ok, cutM_ints, setItL_0, setItL_1, setItL_2, setItL_3, subM_nil, updM_nil, env0, List.map_cons, List.map_nil, List.length_cons, List.length_nil, List.cons_append, List.nil_append, decide_true, decide_false, intM_int, mLst_one, Nat.zero_add, Nat.reduceAdd, Nat.reduceSub, List.replicate_succ, List.replicate_zero, if_true, if_false, wipeE_eq, wipeR_nil, wipeR_cons, List.contains_cons, List.contains_nil, Nat.reduceBEq, Bool.or_true, Bool.true_or, Bool.or_false, Bool.false_or, cond_true, cond_false, mk_ob, mLst_nil, e1, e2]
    rfl
  obtain ⟨ρ, g2, b, r6, r7, r8, r9, r10, r13, r14, r15, r16, r17, r18, r19, r0, hb, rfl⟩ := rounds C_Disk (ns := ns) hb0
  obtain ⟨ts, b1, hb1, hts, h1, h4, g3⟩ := texts_run r0 r6 r7 r8 r9 r10 r13 r14 r15 r16 r17 r18 r19 C_Disk hb
  have g4 := q4 r0 r6 r7 r8 r9 r10 r13 r14 r15 r16 r17 r18 r19 C_Disk hts h4 (some b1) none none none none none
  have g5 := q5 r0 r6 r7 r8 r9 r10 r13 r14 r15 r16 r17 r18 r19 C_Disk hts h4 (some b1) none (some (mS (S (whole ts)))) none none none
  have g6 := q6 r0 r6 r7 r8 r9 r10 r13 r14 r15 r16 r17 r18 r19 C_Disk hts h4 (some b1) none none none none
  have g7 := q7 r0 r6 r7 r8 r9 r10 r13 r14 r15 r16 r17 r18 r19 C_Disk hts h4 (some b1) none none none
  obtain ⟨ρ', g8⟩ := q8 r0 r6 r7 r8 r9 r10 r13 r14 r15 r16 r17 r18 r19 C_Disk hts h4 h1 hb1 none none
  unfold law_f defP
  rw [if_pos (show [M.scr ns].length = 1 from rfl), law_b_eq]
  rw [seqS_eq, g0, R.ok_bind, seqK_nx, seqS_eq, g1, R.ok_bind, seqK_nx, seqS_eq, g2, R.ok_bind, seqK_nx, seqS_eq, g3, R.ok_bind, seqK_nx, seqS_eq, g4, R.ok_bind, seqK_nx, seqS_eq, g5, R.ok_bind, seqK_nx, seqS_eq, g6, R.ok_bind, seqK_nx, seqS_eq, g7, R.ok_bind, seqK_nx, seqS_eq, g8, R.ok_bind, seqK_nx]
  rfl
end DL.K52
namespace DL.K52
open PySem PySem.Spec PyProof.Rows L2 DL
/-! ### what the top has written -/
theorem all_mk {l : PySem.W.OpenLaw} {w : World} {K : PySem.W.Frag} {h : Heap} {mg : Str → Option Value} {fa : Addr} {C_Disk : Addr} {f0 : Addr} {od0 an0 : Option Addr} {sl0 : Array (Option Value)} {oc0 kV0 dc0 pm0 cd0 ct0 : Value} {f1 : Addr} {od1 an1 : Option Addr} {sl1 : Array (Option Value)} {oc1 kV1 dc1 pm1 cd1 ct1 : Value} {f2 : Addr} {od2 an2 : Option Addr} {sl2 : Array (Option Value)} {oc2 kV2 dc2 pm2 cd2 ct2 : Value} {f3 : Addr} {od3 an3 : Option Addr} {sl3 : Array (Option Value)} {oc3 kV3 dc3 pm3 cd3 ct3 : Value} {f4 : Addr} {od4 an4 : Option Addr} {sl4 : Array (Option Value)} {oc4 kV4 dc4 pm4 cd4 ct4 : Value} {f5 : Addr} {od5 an5 : Option Addr} {sl5 : Array (Option Value)} {oc5 kV5 dc5 pm5 cd5 ct5 : Value} {f6 : Addr} {od6 an6 : Option Addr} {sl6 : Array (Option Value)} {oc6 kV6 dc6 pm6 cd6 ct6 : Value} {f7 : Addr} {od7 an7 : Option Addr} {sl7 : Array (Option Value)} {oc7 kV7 dc7 pm7 cd7 ct7 : Value} {f8 : Addr} {od8 an8 : Option Addr} {sl8 : Array (Option Value)} {oc8 kV8 dc8 pm8 cd8 ct8 : Value} {f9 : Addr} {od9 an9 : Option Addr} {sl9 : Array (Option Value)} {oc9 kV9 dc9 pm9 cd9 ct9 : Value} {f10 : Addr} {od10 an10 : Option Addr} {sl10 : Array (Option Value)} {oc10 kV10 dc10 pm10 cd10 ct10 : Value} {f11 : Addr} {od11 an11 : Option Addr} {sl11 : Array (Option Value)} {oc11 kV11 dc11 pm11 cd11 ct11 : Value} {f12 : Addr} {od12 an12 : Option Addr} {sl12 : Array (Option Value)} {oc12 kV12 dc12 pm12 cd12 ct12 : Value} {f13 : Addr} {od13 an13 : Option Addr} {sl13 : Array (Option Value)} {oc13 kV13 dc13 pm13 cd13 ct13 : Value} {f14 : Addr} {od14 an14 : Option Addr} {sl14 : Array (Option Value)} {oc14 kV14 dc14 pm14 cd14 ct14 : Value} {f15 : Addr} {od15 an15 : Option Addr} {sl15 : Array (Option Value)} {oc15 kV15 dc15 pm15 cd15 ct15 : Value} {f16 : Addr} {od16 an16 : Option Addr} {sl16 : Array (Option Value)} {oc16 kV16 dc16 pm16 cd16 ct16 : Value} {f17 : Addr} {od17 an17 : Option Addr} {sl17 : Array (Option Value)} {oc17 kV17 dc17 pm17 cd17 ct17 : Value} {f18 : Addr} {od18 an18 : Option Addr} {sl18 : Array (Option Value)} {oc18 kV18 dc18 pm18 cd18 ct18 : Value} {f19 : Addr} {od19 an19 : Option Addr} {sl19 : Array (Option Value)} {oc19 kV19 dc19 pm19 cd19 ct19 : Value} {f20 : Addr} {od20 an20 : Option Addr} {sl20 : Array (Option Value)} {oc20 kV20 dc20 pm20 cd20 ct20 : Value} {f21 : Addr} {od21 an21 : Option Addr} {sl21 : Array (Option Value)} {oc21 kV21 dc21 pm21 cd21 ct21 : Value} {f22 : Addr} {od22 an22 : Option Addr} {sl22 : Array (Option Value)} {oc22 kV22 dc22 pm22 cd22 ct22 : Value} {f23 : Addr} {od23 an23 : Option Addr} {sl23 : Array (Option Value)} {oc23 kV23 dc23 pm23 cd23 ct23 : Value} {f24 : Addr} {od24 an24 : Option Addr} {sl24 : Array (Option Value)} {oc24 kV24 dc24 pm24 cd24 ct24 : Value} {t_CHECK : Tok} (X : K.In h) (G : h.Ns mainGlobals mg) (hfa : mg "law" = some (.ref fa))
    (aC_Disk : PySem.W.nsIn K mainGlobals "Disk" = some (some (.ref C_Disk)))
    (pg_Disk : PySem.W.plainGet K C_Disk Str.empty = true)
    (hd_Disk : PySem.W.hasDictIn K C_Disk = true)
    (po_Disk : PySem.W.plainOver K C_Disk = true)
    (sa_Disk : PySem.W.findIn K (.ref C_Disk) "__setattr__" = some (some (.builtin "object.__setattr__")))
    (mk_Disk : PySem.W.makesIn K C_Disk = true)
    (kc_Disk : PySem.W.keepIn K (.ref C_Disk) = true)
    (a0 : PySem.W.nsIn K mainGlobals "_law_bag" = some (some (.ref f0)))
    (l0 : K.lookup f0 = some ⟨oc0, od0, .func (PySem.W.fnOf "_law_bag" "_law_bag" (defArgs s__law_bag) (defBody s__law_bag) (defScope s__law_bag) .none kV0 dc0 pm0 an0 cd0 ct0), sl0⟩)
    (c0 : PySem.W.codeIn K cd0 "_law_bag" = true)
    (k0 : PySem.W.keepIn K (.ref f0) = true)
    (a1 : PySem.W.findIn K (.ref C_Disk) "__init__" = some (some (.ref f1)))
    (i1 : PySem.W.isFn K (.ref f1) = true)
    (l1 : K.lookup f1 = some ⟨oc1, od1, .func (PySem.W.fnOf "__init__" "Disk.__init__" (defArgs s_Disk___init__) (defBody s_Disk___init__) (defScope s_Disk___init__) .none kV1 dc1 pm1 an1 cd1 ct1), sl1⟩)
    (c1 : PySem.W.codeIn K cd1 "Disk.__init__" = true)
    (k1 : PySem.W.keepIn K (.ref f1) = true)
    (a2 : PySem.W.nsIn K mainGlobals "_law_take" = some (some (.ref f2)))
    (l2 : K.lookup f2 = some ⟨oc2, od2, .func (PySem.W.fnOf "_law_take" "_law_take" (defArgs s__law_take) (defBody s__law_take) (defScope s__law_take) .none kV2 dc2 pm2 an2 cd2 ct2), sl2⟩)
    (c2 : PySem.W.codeIn K cd2 "_law_take" = true)
    (k2 : PySem.W.keepIn K (.ref f2) = true)
    (a3 : PySem.W.nsIn K mainGlobals "_law_some" = some (some (.ref f3)))
    (l3 : K.lookup f3 = some ⟨oc3, od3, .func (PySem.W.fnOf "_law_some" "_law_some" (defArgs s__law_some) (defBody s__law_some) (defScope s__law_some) .none kV3 dc3 pm3 an3 cd3 ct3), sl3⟩)
    (c3 : PySem.W.codeIn K cd3 "_law_some" = true)
    (k3 : PySem.W.keepIn K (.ref f3) = true)
    (a4 : PySem.W.findIn K (.ref C_Disk) "done" = some (some (.ref f4)))
    (i4 : PySem.W.isFn K (.ref f4) = true)
    (l4 : K.lookup f4 = some ⟨oc4, od4, .func (PySem.W.fnOf "done" "Disk.done" (defArgs s_Disk_done) (defBody s_Disk_done) (defScope s_Disk_done) .none kV4 dc4 pm4 an4 cd4 ct4), sl4⟩)
    (c4 : PySem.W.codeIn K cd4 "Disk.done" = true)
    (k4 : PySem.W.keepIn K (.ref f4) = true)
    (a5 : PySem.W.findIn K (.ref C_Disk) "loose" = some (some (.ref f5)))
    (i5 : PySem.W.isFn K (.ref f5) = true)
    (l5 : K.lookup f5 = some ⟨oc5, od5, .func (PySem.W.fnOf "loose" "Disk.loose" (defArgs s_Disk_loose) (defBody s_Disk_loose) (defScope s_Disk_loose) .none kV5 dc5 pm5 an5 cd5 ct5), sl5⟩)
    (c5 : PySem.W.codeIn K cd5 "Disk.loose" = true)
    (k5 : PySem.W.keepIn K (.ref f5) = true)
    (a6 : PySem.W.findIn K (.ref C_Disk) "files" = some (some (.ref f6)))
    (i6 : PySem.W.isFn K (.ref f6) = true)
    (l6 : K.lookup f6 = some ⟨oc6, od6, .func (PySem.W.fnOf "files" "Disk.files" (defArgs s_Disk_files) (defBody s_Disk_files) (defScope s_Disk_files) .none kV6 dc6 pm6 an6 cd6 ct6), sl6⟩)
    (c6 : PySem.W.codeIn K cd6 "Disk.files" = true)
    (k6 : PySem.W.keepIn K (.ref f6) = true)
    (a7 : PySem.W.findIn K (.ref C_Disk) "sync" = some (some (.ref f7)))
    (i7 : PySem.W.isFn K (.ref f7) = true)
    (l7 : K.lookup f7 = some ⟨oc7, od7, .func (PySem.W.fnOf "sync" "Disk.sync" (defArgs s_Disk_sync) (defBody s_Disk_sync) (defScope s_Disk_sync) .none kV7 dc7 pm7 an7 cd7 ct7), sl7⟩)
    (c7 : PySem.W.codeIn K cd7 "Disk.sync" = true)
    (k7 : PySem.W.keepIn K (.ref f7) = true)
    (a8 : PySem.W.nsIn K mainGlobals "_law_files" = some (some (.ref f8)))
    (l8 : K.lookup f8 = some ⟨oc8, od8, .func (PySem.W.fnOf "_law_files" "_law_files" (defArgs s__law_files) (defBody s__law_files) (defScope s__law_files) .none kV8 dc8 pm8 an8 cd8 ct8), sl8⟩)
    (c8 : PySem.W.codeIn K cd8 "_law_files" = true)
    (k8 : PySem.W.keepIn K (.ref f8) = true)
    (a9 : PySem.W.findIn K (.ref C_Disk) "drop" = some (some (.ref f9)))
    (i9 : PySem.W.isFn K (.ref f9) = true)
    (l9 : K.lookup f9 = some ⟨oc9, od9, .func (PySem.W.fnOf "drop" "Disk.drop" (defArgs s_Disk_drop) (defBody s_Disk_drop) (defScope s_Disk_drop) .none kV9 dc9 pm9 an9 cd9 ct9), sl9⟩)
    (c9 : PySem.W.codeIn K cd9 "Disk.drop" = true)
    (k9 : PySem.W.keepIn K (.ref f9) = true)
    (a10 : PySem.W.findIn K (.ref C_Disk) "add" = some (some (.ref f10)))
    (i10 : PySem.W.isFn K (.ref f10) = true)
    (l10 : K.lookup f10 = some ⟨oc10, od10, .func (PySem.W.fnOf "add" "Disk.add" (defArgs s_Disk_add) (defBody s_Disk_add) (defScope s_Disk_add) .none kV10 dc10 pm10 an10 cd10 ct10), sl10⟩)
    (c10 : PySem.W.codeIn K cd10 "Disk.add" = true)
    (k10 : PySem.W.keepIn K (.ref f10) = true)
    (a11 : PySem.W.findIn K (.ref C_Disk) "names" = some (some (.ref f11)))
    (i11 : PySem.W.isFn K (.ref f11) = true)
    (l11 : K.lookup f11 = some ⟨oc11, od11, .func (PySem.W.fnOf "names" "Disk.names" (defArgs s_Disk_names) (defBody s_Disk_names) (defScope s_Disk_names) .none kV11 dc11 pm11 an11 cd11 ct11), sl11⟩)
    (c11 : PySem.W.codeIn K cd11 "Disk.names" = true)
    (k11 : PySem.W.keepIn K (.ref f11) = true)
    (a12 : PySem.W.nsIn K mainGlobals "_law_alike" = some (some (.ref f12)))
    (l12 : K.lookup f12 = some ⟨oc12, od12, .func (PySem.W.fnOf "_law_alike" "_law_alike" (defArgs s__law_alike) (defBody s__law_alike) (defScope s__law_alike) .none kV12 dc12 pm12 an12 cd12 ct12), sl12⟩)
    (c12 : PySem.W.codeIn K cd12 "_law_alike" = true)
    (k12 : PySem.W.keepIn K (.ref f12) = true)
    (a13 : PySem.W.findIn K (.ref C_Disk) "text" = some (some (.ref f13)))
    (i13 : PySem.W.isFn K (.ref f13) = true)
    (l13 : K.lookup f13 = some ⟨oc13, od13, .func (PySem.W.fnOf "text" "Disk.text" (defArgs s_Disk_text) (defBody s_Disk_text) (defScope s_Disk_text) .none kV13 dc13 pm13 an13 cd13 ct13), sl13⟩)
    (c13 : PySem.W.codeIn K cd13 "Disk.text" = true)
    (k13 : PySem.W.keepIn K (.ref f13) = true)
    (a14 : PySem.W.findIn K (.ref C_Disk) "crashed" = some (some (.ref f14)))
    (i14 : PySem.W.isFn K (.ref f14) = true)
    (l14 : K.lookup f14 = some ⟨oc14, od14, .func (PySem.W.fnOf "crashed" "Disk.crashed" (defArgs s_Disk_crashed) (defBody s_Disk_crashed) (defScope s_Disk_crashed) .none kV14 dc14 pm14 an14 cd14 ct14), sl14⟩)
    (c14 : PySem.W.codeIn K cd14 "Disk.crashed" = true)
    (k14 : PySem.W.keepIn K (.ref f14) = true)
    (a15 : PySem.W.findIn K (.ref C_Disk) "__eq__" = some (some (.ref f15)))
    (i15 : PySem.W.isFn K (.ref f15) = true)
    (l15 : K.lookup f15 = some ⟨oc15, od15, .func (PySem.W.fnOf "__eq__" "Disk.__eq__" (defArgs s_Disk___eq__) (defBody s_Disk___eq__) (defScope s_Disk___eq__) .none kV15 dc15 pm15 an15 cd15 ct15), sl15⟩)
    (c15 : PySem.W.codeIn K cd15 "Disk.__eq__" = true)
    (k15 : PySem.W.keepIn K (.ref f15) = true)
    (a16 : PySem.W.nsIn K mainGlobals "_law_framed" = some (some (.ref f16)))
    (l16 : K.lookup f16 = some ⟨oc16, od16, .func (PySem.W.fnOf "_law_framed" "_law_framed" (defArgs s__law_framed) (defBody s__law_framed) (defScope s__law_framed) .none kV16 dc16 pm16 an16 cd16 ct16), sl16⟩)
    (c16 : PySem.W.codeIn K cd16 "_law_framed" = true)
    (k16 : PySem.W.keepIn K (.ref f16) = true)
    (a17 : PySem.W.nsIn K mainGlobals "check_of" = some (some (.ref f17)))
    (l17 : K.lookup f17 = some ⟨oc17, od17, .func (PySem.W.fnOf "check_of" "check_of" (defArgs s_check_of) (defBody s_check_of) (defScope s_check_of) .none kV17 dc17 pm17 an17 cd17 ct17), sl17⟩)
    (c17 : PySem.W.codeIn K cd17 "check_of" = true)
    (k17 : PySem.W.keepIn K (.ref f17) = true)
    (a18 : PySem.W.nsIn K mainGlobals "framed" = some (some (.ref f18)))
    (l18 : K.lookup f18 = some ⟨oc18, od18, .func (PySem.W.fnOf "framed" "framed" (defArgs s_framed) (defBody s_framed) (defScope s_framed) .none kV18 dc18 pm18 an18 cd18 ct18), sl18⟩)
    (c18 : PySem.W.codeIn K cd18 "framed" = true)
    (k18 : PySem.W.keepIn K (.ref f18) = true)
    (a19 : PySem.W.nsIn K mainGlobals "number_at" = some (some (.ref f19)))
    (l19 : K.lookup f19 = some ⟨oc19, od19, .func (PySem.W.fnOf "number_at" "number_at" (defArgs s_number_at) (defBody s_number_at) (defScope s_number_at) .none kV19 dc19 pm19 an19 cd19 ct19), sl19⟩)
    (c19 : PySem.W.codeIn K cd19 "number_at" = true)
    (k19 : PySem.W.keepIn K (.ref f19) = true)
    (a20 : PySem.W.nsIn K mainGlobals "frame_at" = some (some (.ref f20)))
    (l20 : K.lookup f20 = some ⟨oc20, od20, .func (PySem.W.fnOf "frame_at" "frame_at" (defArgs s_frame_at) (defBody s_frame_at) (defScope s_frame_at) .none kV20 dc20 pm20 an20 cd20 ct20), sl20⟩)
    (c20 : PySem.W.codeIn K cd20 "frame_at" = true)
    (k20 : PySem.W.keepIn K (.ref f20) = true)
    (a21 : PySem.W.nsIn K mainGlobals "frames_in" = some (some (.ref f21)))
    (l21 : K.lookup f21 = some ⟨oc21, od21, .func (PySem.W.fnOf "frames_in" "frames_in" (defArgs s_frames_in) (defBody s_frames_in) (defScope s_frames_in) .none kV21 dc21 pm21 an21 cd21 ct21), sl21⟩)
    (c21 : PySem.W.codeIn K cd21 "frames_in" = true)
    (k21 : PySem.W.keepIn K (.ref f21) = true)
    (a22 : PySem.W.nsIn K mainGlobals "_law_first_frame" = some (some (.ref f22)))
    (l22 : K.lookup f22 = some ⟨oc22, od22, .func (PySem.W.fnOf "_law_first_frame" "_law_first_frame" (defArgs s__law_first_frame) (defBody s__law_first_frame) (defScope s__law_first_frame) .none kV22 dc22 pm22 an22 cd22 ct22), sl22⟩)
    (c22 : PySem.W.codeIn K cd22 "_law_first_frame" = true)
    (k22 : PySem.W.keepIn K (.ref f22) = true)
    (a23 : PySem.W.nsIn K mainGlobals "_law_frames" = some (some (.ref f23)))
    (l23 : K.lookup f23 = some ⟨oc23, od23, .func (PySem.W.fnOf "_law_frames" "_law_frames" (defArgs s__law_frames) (defBody s__law_frames) (defScope s__law_frames) .none kV23 dc23 pm23 an23 cd23 ct23), sl23⟩)
    (c23 : PySem.W.codeIn K cd23 "_law_frames" = true)
    (k23 : PySem.W.keepIn K (.ref f23) = true)
    (a24 : PySem.W.nsIn K mainGlobals "law" = some (some (.ref f24)))
    (l24 : K.lookup f24 = some ⟨oc24, od24, .func (PySem.W.fnOf "law" "law" (defArgs s_law) (defBody s_law) (defScope s_law) .none kV24 dc24 pm24 an24 cd24 ct24), sl24⟩)
    (c24 : PySem.W.codeIn K cd24 "law" = true)
    (k24 : PySem.W.keepIn K (.ref f24) = true)
    (z_abs : PySem.W.nsIn K mainGlobals "abs" = some none)
    (z_all : PySem.W.nsIn K mainGlobals "all" = some none)
    (z_dict : PySem.W.nsIn K mainGlobals "dict" = some none)
    (z_enumerate : PySem.W.nsIn K mainGlobals "enumerate" = some none)
    (z_int : PySem.W.nsIn K mainGlobals "int" = some none)
    (z_isinstance : PySem.W.nsIn K mainGlobals "isinstance" = some none)
    (z_len : PySem.W.nsIn K mainGlobals "len" = some none)
    (z_list : PySem.W.nsIn K mainGlobals "list" = some none)
    (z_min : PySem.W.nsIn K mainGlobals "min" = some none)
    (z_ord : PySem.W.nsIn K mainGlobals "ord" = some none)
    (z_range : PySem.W.nsIn K mainGlobals "range" = some none)
    (z_repr : PySem.W.nsIn K mainGlobals "repr" = some none)
    (z_sorted : PySem.W.nsIn K mainGlobals "sorted" = some none)
    (z_str : PySem.W.nsIn K mainGlobals "str" = some none)
    (z_sum : PySem.W.nsIn K mainGlobals "sum" = some none)
    (z_tuple : PySem.W.nsIn K mainGlobals "tuple" = some none)
    (v_CHECK : PySem.W.nsIn K mainGlobals "CHECK" = some (some (.int 9973 t_CHECK)))
    (n_Disk_its_since : PySem.W.findIn K (.ref C_Disk) "its_since" = some none)
    (n_Disk_its_sure : PySem.W.findIn K (.ref C_Disk) "its_sure" = some none)
    (ia_Disk : PySem.W.findIn K (.ref C_Disk) "__class__" = some (some (.builtin "object.__class__")))
    (ib_Disk : PySem.W.specialIn K (.builtin "object.__class__") "__get__" = some (some (.builtin "getset_descriptor.__get__")))
    (ic_Disk : PySem.W.takesIn K (.builtin "object.__class__") = some true)
    (id_Disk : PySem.W.mroIn K C_Disk (.type "object") = some true)
    (ie_Disk : (PySem.W.clsIn K C_Disk).isSome = true)
    (it_Disk : PySem.W.typeIn K (.ref C_Disk) = some (.type "type"))
    (if_Disk : PySem.W.subIn K (.type "int") (.ref C_Disk) = some false)
    (ig_Disk : PySem.W.subIn K (.type "str") (.ref C_Disk) = some false)
    (ih_Disk : PySem.W.subIn K (.type "NoneType") (.ref C_Disk) = some false)
    (eq_Disk : PySem.W.notFirst K C_Disk (.type "int") = true)
    : ∃ fd : FuncData, (∀ (s : Shared) (v : Value), BindsTo s fd ⟨[v], []⟩ [("script", v)]) ∧ ∀ base : Heap, K.In base → base.Ns mainGlobals mg → FnG l.prog w K mg base CX0 5 fa fd ["script"] (spP K (law_f C_Disk)) := by
  have e := hfa.symm.trans (PySem.W.mg_of X G a24)
  cases e
  have T : Txt K mg C_Disk := ⟨PySem.W.mg_none_of X G z_abs, PySem.W.mg_none_of X G z_all, PySem.W.mg_none_of X G z_dict, PySem.W.mg_none_of X G z_enumerate, PySem.W.mg_none_of X G z_int, PySem.W.mg_none_of X G z_isinstance, PySem.W.mg_none_of X G z_len, PySem.W.mg_none_of X G z_list, PySem.W.mg_none_of X G z_min, PySem.W.mg_none_of X G z_ord, PySem.W.mg_none_of X G z_range, PySem.W.mg_none_of X G z_repr, PySem.W.mg_none_of X G z_sorted, PySem.W.mg_none_of X G z_str, PySem.W.mg_none_of X G z_sum, PySem.W.mg_none_of X G z_tuple, ⟨_, PySem.W.mg_of X G v_CHECK⟩, ⟨pg_Disk, hd_Disk, po_Disk, sa_Disk⟩, PySem.W.mg_of X G aC_Disk, n_Disk_its_since, n_Disk_its_sure, ⟨⟨⟨pg_Disk, hd_Disk, po_Disk, sa_Disk⟩, ia_Disk, ib_Disk, ic_Disk, id_Disk, DL.kit_self⟩, DL.kit_no ie_Disk it_Disk if_Disk, DL.kit_no ie_Disk it_Disk ig_Disk, DL.kit_no ie_Disk it_Disk ih_Disk⟩⟩
  have F0 := fun_mk (st := s__law_bag) l0 c0 k0
  have b0 := F0.binds (ps := ["script"]) fun _ _ _ _ _ _ us hl => match us, hl with | [_], _ => rfl
  have F1 := fun_mk (st := s_Disk___init__) l1 c1 k1
  have b1 := F1.binds (ps := ["self"]) fun _ _ _ _ _ _ us hl => match us, hl with | [_], _ => rfl
  have F2 := fun_mk (st := s__law_take) l2 c2 k2
  have b2 := F2.binds (ps := ["bag", "many"]) fun _ _ _ _ _ _ us hl => match us, hl with | [_, _], _ => rfl
  have F3 := fun_mk (st := s__law_some) l3 c3 k3
  have b3 := F3.binds (ps := ["bag", "things"]) fun _ _ _ _ _ _ us hl => match us, hl with | [_, _], _ => rfl
  have F4 := fun_mk (st := s_Disk_done) l4 c4 k4
  have b4 := F4.binds (ps := ["self", "many"]) fun _ _ _ _ _ _ us hl => match us, hl with | [_, _], _ => rfl
  have F5 := fun_mk (st := s_Disk_loose) l5 c5 k5
  have b5 := F5.binds (ps := ["self"]) fun _ _ _ _ _ _ us hl => match us, hl with | [_], _ => rfl
  have F6 := fun_mk (st := s_Disk_files) l6 c6 k6
  have b6 := F6.binds (ps := ["self"]) fun _ _ _ _ _ _ us hl => match us, hl with | [_], _ => rfl
  have F7 := fun_mk (st := s_Disk_sync) l7 c7 k7
  have b7 := F7.binds (ps := ["self"]) fun _ _ _ _ _ _ us hl => match us, hl with | [_], _ => rfl
  have F8 := fun_mk (st := s__law_files) l8 c8 k8
  have b8 := F8.binds (ps := ["solid", "loose"]) fun _ _ _ _ _ _ us hl => match us, hl with | [_, _], _ => rfl
  have F9 := fun_mk (st := s_Disk_drop) l9 c9 k9
  have b9 := F9.binds (ps := ["self", "name"]) fun _ _ _ _ _ _ us hl => match us, hl with | [_, _], _ => rfl
  have F10 := fun_mk (st := s_Disk_add) l10 c10 k10
  have b10 := F10.binds (ps := ["self", "name", "text"]) fun _ _ _ _ _ _ us hl => match us, hl with | [_, _, _], _ => rfl
  have F11 := fun_mk (st := s_Disk_names) l11 c11 k11
  have b11 := F11.binds (ps := ["self"]) fun _ _ _ _ _ _ us hl => match us, hl with | [_], _ => rfl
  have F12 := fun_mk (st := s__law_alike) l12 c12 k12
  have b12 := F12.binds (ps := ["found", "due"]) fun _ _ _ _ _ _ us hl => match us, hl with | [_, _], _ => rfl
  have F13 := fun_mk (st := s_Disk_text) l13 c13 k13
  have b13 := F13.binds (ps := ["self", "name"]) fun _ _ _ _ _ _ us hl => match us, hl with | [_, _], _ => rfl
  have F14 := fun_mk (st := s_Disk_crashed) l14 c14 k14
  have b14 := F14.binds (ps := ["self", "many"]) fun _ _ _ _ _ _ us hl => match us, hl with | [_, _], _ => rfl
  have F15 := fun_mk (st := s_Disk___eq__) l15 c15 k15
  have b15 := F15.binds (ps := ["self", "other"]) fun _ _ _ _ _ _ us hl => match us, hl with | [_, _], _ => rfl
  have F16 := fun_mk (st := s__law_framed) l16 c16 k16
  have b16 := F16.binds (ps := ["text"]) fun _ _ _ _ _ _ us hl => match us, hl with | [_], _ => rfl
  have F17 := fun_mk (st := s_check_of) l17 c17 k17
  have b17 := F17.binds (ps := ["text"]) fun _ _ _ _ _ _ us hl => match us, hl with | [_], _ => rfl
  have F18 := fun_mk (st := s_framed) l18 c18 k18
  have b18 := F18.binds (ps := ["text"]) fun _ _ _ _ _ _ us hl => match us, hl with | [_], _ => rfl
  have F19 := fun_mk (st := s_number_at) l19 c19 k19
  have b19 := F19.binds (ps := ["text", "begin"]) fun _ _ _ _ _ _ us hl => match us, hl with | [_, _], _ => rfl
  have F20 := fun_mk (st := s_frame_at) l20 c20 k20
  have b20 := F20.binds (ps := ["text", "begin"]) fun _ _ _ _ _ _ us hl => match us, hl with | [_, _], _ => rfl
  have F21 := fun_mk (st := s_frames_in) l21 c21 k21
  have b21 := F21.binds (ps := ["text"]) fun _ _ _ _ _ _ us hl => match us, hl with | [_], _ => rfl
  have F22 := fun_mk (st := s__law_first_frame) l22 c22 k22
  have b22 := F22.binds (ps := ["text"]) fun _ _ _ _ _ _ us hl => match us, hl with | [_], _ => rfl
  have F23 := fun_mk (st := s__law_frames) l23 c23 k23
  have b23 := F23.binds (ps := ["text"]) fun _ _ _ _ _ _ us hl => match us, hl with | [_], _ => rfl
  have F24 := fun_mk (st := s_law) l24 c24 k24
  have b24 := F24.binds (ps := ["script"]) fun _ _ _ _ _ _ us hl => match us, hl with | [_], _ => rfl
  refine ⟨PySem.W.fnOf "law" "law" (defArgs s_law) (defBody s_law) (defScope s_law) .none kV24 dc24 pm24 an24 cd24 ct24, fun s v => .of_eq rfl, fun base _ _ => ?_⟩
  have o0 := ok__law_bag (P := l.prog) (w := w) (base := base) F0 T 
  have h__law_bag : GfP l.prog w K mg base 1 "_law_bag" (_law_bag_f C_Disk) := ⟨_, _, _, o0, PySem.W.mg_of X G a0, k0, b0⟩
  have o1 := ok_Disk___init__ (P := l.prog) (w := w) (base := base) F1 T 
  have h_Disk : GcX l.prog w K mg base C_Disk 1 "Disk" (Disk___init___f C_Disk) := ⟨_, _, _, o1, ⟨mk_Disk, a1, i1, kc_Disk⟩, PySem.W.mg_of X G aC_Disk, b1⟩
  have o2 := ok__law_take (P := l.prog) (w := w) (base := base) F2 T 
  have h__law_take : GfX l.prog w K mg base 1 "_law_take" (_law_take_f C_Disk) := ⟨_, _, _, o2, PySem.W.mg_of X G a2, k2, b2⟩
  have o3 := ok__law_some (P := l.prog) (w := w) (base := base) F3 T h__law_take
  have h__law_some : GfX l.prog w K mg base 2 "_law_some" (_law_some_f C_Disk) := ⟨_, _, _, o3, PySem.W.mg_of X G a3, k3, b3⟩
  have o4 := ok_Disk_done (P := l.prog) (w := w) (base := base) F4 T 
  have h_Disk_done : GmP l.prog w K mg base C_Disk 1 "done" (Disk_done_f C_Disk) := ⟨_, _, _, o4, ⟨a4, i4, k4⟩, b4⟩
  have o5 := ok_Disk_loose (P := l.prog) (w := w) (base := base) F5 T 
  have h_Disk_loose : GmP l.prog w K mg base C_Disk 1 "loose" (Disk_loose_f C_Disk) := ⟨_, _, _, o5, ⟨a5, i5, k5⟩, b5⟩
  have o6 := ok_Disk_files (P := l.prog) (w := w) (base := base) F6 T h_Disk_done h_Disk_loose
  have h_Disk_files : GmP l.prog w K mg base C_Disk 2 "files" (Disk_files_f C_Disk) := ⟨_, _, _, o6, ⟨a6, i6, k6⟩, b6⟩
  have o7 := ok_Disk_sync (P := l.prog) (w := w) (base := base) F7 T h_Disk_files
  have h_Disk_sync : GmX l.prog w K mg base C_Disk 3 "sync" (Disk_sync_f C_Disk) := ⟨_, _, _, o7, ⟨a7, i7, k7⟩, b7⟩
  have o8 := ok__law_files (P := l.prog) (w := w) (base := base) F8 T 
  have h__law_files : GfP l.prog w K mg base 1 "_law_files" (_law_files_f C_Disk) := ⟨_, _, _, o8, PySem.W.mg_of X G a8, k8, b8⟩
  have o9 := ok_Disk_drop (P := l.prog) (w := w) (base := base) F9 T 
  have h_Disk_drop : GmX l.prog w K mg base C_Disk 1 "drop" (Disk_drop_f C_Disk) := ⟨_, _, _, o9, ⟨a9, i9, k9⟩, b9⟩
  have o10 := ok_Disk_add (P := l.prog) (w := w) (base := base) F10 T 
  have h_Disk_add : GmX l.prog w K mg base C_Disk 1 "add" (Disk_add_f C_Disk) := ⟨_, _, _, o10, ⟨a10, i10, k10⟩, b10⟩
  have o11 := ok_Disk_names (P := l.prog) (w := w) (base := base) F11 T h_Disk_files
  have h_Disk_names : GmP l.prog w K mg base C_Disk 3 "names" (Disk_names_f C_Disk) := ⟨_, _, _, o11, ⟨a11, i11, k11⟩, b11⟩
  have o12 := ok__law_alike (P := l.prog) (w := w) (base := base) F12 T 
  have h__law_alike : GfG l.prog w K mg base 1 "_law_alike" (_law_alike_f C_Disk) := ⟨_, _, _, o12, PySem.W.mg_of X G a12, k12, b12⟩
  have o13 := ok_Disk_text (P := l.prog) (w := w) (base := base) F13 T h_Disk_files
  have h_Disk_text : GmP l.prog w K mg base C_Disk 3 "text" (Disk_text_f C_Disk) := ⟨_, _, _, o13, ⟨a13, i13, k13⟩, b13⟩
  have o14 := ok_Disk_crashed (P := l.prog) (w := w) (base := base) F14 T h_Disk h_Disk_done
  have h_Disk_crashed : GmP l.prog w K mg base C_Disk 3 "crashed" (Disk_crashed_f C_Disk) := ⟨_, _, _, o14, ⟨a14, i14, k14⟩, b14⟩
  have o15 := ok_Disk___eq__ (P := l.prog) (w := w) (base := base) F15 T h_Disk_files
  have h_Disk_eq : GeP l.prog w K mg base C_Disk 3 (Disk___eq___f C_Disk) := ⟨_, _, _, o15, ⟨a15, i15, eq_Disk⟩, b15⟩
  have o16 := ok__law_framed (P := l.prog) (w := w) (base := base) F16 T 
  have h__law_framed : GfP l.prog w K mg base 1 "_law_framed" (_law_framed_f C_Disk) := ⟨_, _, _, o16, PySem.W.mg_of X G a16, k16, b16⟩
  have o17 := ok_check_of (P := l.prog) (w := w) (base := base) F17 T 
  have h_check_of : GfP l.prog w K mg base 1 "check_of" (check_of_f C_Disk) := ⟨_, _, _, o17, PySem.W.mg_of X G a17, k17, b17⟩
  have o18 := ok_framed (P := l.prog) (w := w) (base := base) F18 T h_check_of
  have h_framed : GfP l.prog w K mg base 2 "framed" (framed_f C_Disk) := ⟨_, _, _, o18, PySem.W.mg_of X G a18, k18, b18⟩
  have o19 := ok_number_at (P := l.prog) (w := w) (base := base) F19 T 
  have h_number_at : GfP l.prog w K mg base 1 "number_at" (number_at_f C_Disk) := ⟨_, _, _, o19, PySem.W.mg_of X G a19, k19, b19⟩
  have o20 := ok_frame_at (P := l.prog) (w := w) (base := base) F20 T h_number_at h_framed
  have h_frame_at : GfP l.prog w K mg base 3 "frame_at" (frame_at_f C_Disk) := ⟨_, _, _, o20, PySem.W.mg_of X G a20, k20, b20⟩
  have o21 := ok_frames_in (P := l.prog) (w := w) (base := base) F21 T h_frame_at
  have h_frames_in : GfP l.prog w K mg base 4 "frames_in" (frames_in_f C_Disk) := ⟨_, _, _, o21, PySem.W.mg_of X G a21, k21, b21⟩
  have o22 := ok__law_first_frame (P := l.prog) (w := w) (base := base) F22 T h__law_framed
  have h__law_first_frame : GfP l.prog w K mg base 2 "_law_first_frame" (_law_first_frame_f C_Disk) := ⟨_, _, _, o22, PySem.W.mg_of X G a22, k22, b22⟩
  have o23 := ok__law_frames (P := l.prog) (w := w) (base := base) F23 T h__law_first_frame
  have h__law_frames : GfP l.prog w K mg base 3 "_law_frames" (_law_frames_f C_Disk) := ⟨_, _, _, o23, PySem.W.mg_of X G a23, k23, b23⟩
  have o24 := ok_law (P := l.prog) (w := w) (base := base) F24 T h__law_bag h_Disk h__law_some h__law_take h_Disk_sync h__law_files h_Disk_drop h_Disk_add h_Disk_names h_Disk_loose h__law_alike h_Disk_text h_Disk_crashed h_Disk_eq h__law_framed h_framed h_frames_in h__law_frames
  exact o24
theorem sp_true {K : PySem.W.Frag} (C_Disk : Addr) {H : Hp} {a : Addr} {ns : List Int} (hl : ns.length ≤ 63) (hO : Only H) (hS : SqL K H a (ns.map V.int)) : spP K (law_f C_Disk) [.ref a] H (fun v _ => v = .bl true) fun _ _ _ => False := by
  refine ⟨[.scr ns], [[]], mB true, .cons ?_ List.nodup_nil .nil, law_true C_Disk ns hl, fun v H2 T e is nw => is.bl⟩
  rcases hS with (h | ⟨o, h⟩) | h
  · rcases hO a with z | ⟨o, xs, z⟩ <;> (rw [h] at z; cases z)
  · exact .scrF h
  · exact .scrK fun H' => .inr h
end DL.K52
open PySem PySem.W PyProof.Rows
set_option maxRecDepth 100000 in
set_option maxHeartbeats 0 in
theorem PySem.Challenge.cw_latesettled_k52_disks_and_frames_holds : PySem.Challenge.rw_latesettled_k52_disks_and_frames.Holds := by
  w_on; o_law; k_head; (case hw => w_witness2)
  k_fill
  refine DL.walk_ofG (l := PySem.Challenge.rw_latesettled_k52_disks_and_frames) (n := 63) (k := 5) (x := "script") (CX := fun _ => L2.CX0) (sp := ?sp) rfl (by decide) rfl ⟨rfl, by decide, by decide⟩ (fun w h Y => PySem.W.kIn_of Y) ?F ?hsp (fun _ _ _ _ _ z => z)
  case F =>
    intro w mg fa h KX G hmg
    refine' DL.K52.all_mk KX G hmg ?aC_Disk ?pg_Disk ?hd_Disk ?po_Disk ?sa_Disk ?mk_Disk ?kc_Disk ?a0 ?l0 ?c0 ?k0 ?a1 ?i1 ?l1 ?c1 ?k1 ?a2 ?l2 ?c2 ?k2 ?a3 ?l3 ?c3 ?k3 ?a4 ?i4 ?l4 ?c4 ?k4 ?a5 ?i5 ?l5 ?c5 ?k5 ?a6 ?i6 ?l6 ?c6 ?k6 ?a7 ?i7 ?l7 ?c7 ?k7 ?a8 ?l8 ?c8 ?k8 ?a9 ?i9 ?l9 ?c9 ?k9 ?a10 ?i10 ?l10 ?c10 ?k10 ?a11 ?i11 ?l11 ?c11 ?k11 ?a12 ?l12 ?c12 ?k12 ?a13 ?i13 ?l13 ?c13 ?k13 ?a14 ?i14 ?l14 ?c14 ?k14 ?a15 ?i15 ?l15 ?c15 ?k15 ?a16 ?l16 ?c16 ?k16 ?a17 ?l17 ?c17 ?k17 ?a18 ?l18 ?c18 ?k18 ?a19 ?l19 ?c19 ?k19 ?a20 ?l20 ?c20 ?k20 ?a21 ?l21 ?c21 ?k21 ?a22 ?l22 ?c22 ?k22 ?a23 ?l23 ?c23 ?k23 ?a24 ?l24 ?c24 ?k24 ?z_abs ?z_all ?z_dict ?z_enumerate ?z_int ?z_isinstance ?z_len ?z_list ?z_min ?z_ord ?z_range ?z_repr ?z_sorted ?z_str ?z_sum ?z_tuple ?v_CHECK ?n_Disk_its_since ?n_Disk_its_sure ?ia_Disk ?ib_Disk ?ic_Disk ?id_Disk ?ie_Disk ?it_Disk ?if_Disk ?ig_Disk ?ih_Disk ?eq_Disk
    (case aC_Disk => k_is)
    (case pg_Disk => k_is)
    (case hd_Disk => k_is)
    (case po_Disk => k_is)
    (case sa_Disk => k_is)
    (case mk_Disk => k_is)
    (case kc_Disk => k_is)
    (case a0 => k_is)
    (case l0 => k_is)
    (case c0 => k_is)
    (case k0 => k_is)
    (case a1 => k_is)
    (case i1 => k_is)
    (case l1 => k_is)
    (case c1 => k_is)
    (case k1 => k_is)
    (case a2 => k_is)
    (case l2 => k_is)
    (case c2 => k_is)
    (case k2 => k_is)
    (case a3 => k_is)
    (case l3 => k_is)
    (case c3 => k_is)
    (case k3 => k_is)
    (case a4 => k_is)
    (case i4 => k_is)
    (case l4 => k_is)
    (case c4 => k_is)
    (case k4 => k_is)
    (case a5 => k_is)
    (case i5 => k_is)
    (case l5 => k_is)
    (case c5 => k_is)
    (case k5 => k_is)
    (case a6 => k_is)
    (case i6 => k_is)
    (case l6 => k_is)
    (case c6 => k_is)
    (case k6 => k_is)
    (case a7 => k_is)
    (case i7 => k_is)
    (case l7 => k_is)
    (case c7 => k_is)
    (case k7 => k_is)
    (case a8 => k_is)
    (case l8 => k_is)
    (case c8 => k_is)
    (case k8 => k_is)
    (case a9 => k_is)
    (case i9 => k_is)
    (case l9 => k_is)
    (case c9 => k_is)
    (case k9 => k_is)
    (case a10 => k_is)
    (case i10 => k_is)
    (case l10 => k_is)
    (case c10 => k_is)
    (case k10 => k_is)
    (case a11 => k_is)
    (case i11 => k_is)
    (case l11 => k_is)
    (case c11 => k_is)
    (case k11 => k_is)
    (case a12 => k_is)
    (case l12 => k_is)
    (case c12 => k_is)
    (case k12 => k_is)
    (case a13 => k_is)
    (case i13 => k_is)
    (case l13 => k_is)
    (case c13 => k_is)
    (case k13 => k_is)
    (case a14 => k_is)
    (case i14 => k_is)
    (case l14 => k_is)
    (case c14 => k_is)
    (case k14 => k_is)
    (case a15 => k_is)
    (case i15 => k_is)
    (case l15 => k_is)
    (case c15 => k_is)
    (case k15 => k_is)
    (case a16 => k_is)
    (case l16 => k_is)
    (case c16 => k_is)
    (case k16 => k_is)
    (case a17 => k_is)
    (case l17 => k_is)
    (case c17 => k_is)
    (case k17 => k_is)
    (case a18 => k_is)
    (case l18 => k_is)
    (case c18 => k_is)
    (case k18 => k_is)
    (case a19 => k_is)
    (case l19 => k_is)
    (case c19 => k_is)
    (case k19 => k_is)
    (case a20 => k_is)
    (case l20 => k_is)
    (case c20 => k_is)
    (case k20 => k_is)
    (case a21 => k_is)
    (case l21 => k_is)
    (case c21 => k_is)
    (case k21 => k_is)
    (case a22 => k_is)
    (case l22 => k_is)
    (case c22 => k_is)
    (case k22 => k_is)
    (case a23 => k_is)
    (case l23 => k_is)
    (case c23 => k_is)
    (case k23 => k_is)
    (case a24 => k_is)
    (case l24 => k_is)
    (case c24 => k_is)
    (case k24 => k_is)
    (case z_abs => k_is)
    (case z_all => k_is)
    (case z_dict => k_is)
    (case z_enumerate => k_is)
    (case z_int => k_is)
    (case z_isinstance => k_is)
    (case z_len => k_is)
    (case z_list => k_is)
    (case z_min => k_is)
    (case z_ord => k_is)
    (case z_range => k_is)
    (case z_repr => k_is)
    (case z_sorted => k_is)
    (case z_str => k_is)
    (case z_sum => k_is)
    (case z_tuple => k_is)
    (case v_CHECK => k_is)
    (case n_Disk_its_since => k_is)
    (case n_Disk_its_sure => k_is)
    (case ia_Disk => k_is)
    (case ib_Disk => k_is)
    (case ic_Disk => k_is)
    (case id_Disk => k_is)
    (case ie_Disk => first | rfl | decide +kernel)
    (case it_Disk => k_is)
    (case if_Disk => k_is)
    (case ig_Disk => k_is)
    (case ih_Disk => k_is)
    (case eq_Disk => k_is)
  case hsp => exact fun w H a ns hl _ hO hS => DL.K52.sp_true _ hl hO hS
