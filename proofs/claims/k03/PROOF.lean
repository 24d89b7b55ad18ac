import PyProof.Rows.All
import Wide.All
import OpenK.AllK
import Wide.FinOn
import HandS.ForMost
import HandS.ForExc
import HandS.Wide
import HandS.Defaults
import HandS.CallSlots
import HandS.IsInst
import HandS.Deep
import HandS.HeadHook2
import HandS.Head2
import HandS.HeadEnd
import HandS.MakeKwOnly
import HandS.ExcInit
import HandS.MakeKw
import HandS.Head0
import HandS.Head1
import HandS.HeadHook1
import HandS.HeadHook3
import HandS.Sort
import HandS.TryOnly
import HandS.TryMany
import HandS.ExcField
import HandS.ExcIs
import HandS.RaiseFrom
import HandS.SuiteRaise
import HandS.NoneIn
import HandS.FStr
import KE.KCallOwn
import HandS.TupAny
import HandS.Text
import PyProof.StrOps2
import PyProof.InstNe
import HandS.More
import HandS.OwnEq
import PySem.Challenge.RW_sentahead_k03_things_asked
set_option Elab.async false
set_option linter.all false
set_option maxRecDepth 100000
set_option maxHeartbeats 4000000
/-!  -/
namespace Z
/-! Z1 -/
/-! Values as trees over the hand layer: the base. -/
open PySem PySem.Spec L2

abbrev Fr := PySem.W.Frag

/-- a value: tuples, lists and instances that are never changed again are values; .ref a: an object that is owned -/
inductive Val where
  | non | bl (b : Bool) | int (i : Int) | str (x : Str) | tup (xs : List Val) | lst (xs : List Val) | scr (xs : List Val)
  | obj (C : Addr) (fs : List (Str × Val)) | ref (a : Addr) | ty (n : String) | exc (a dd : Addr) (v : Val)

mutual
def Rel (K : Fr) (S : Hp) : Val → V → Prop
  | .non, w => w = .non
  | .bl b, w => w = .bl b
  | .int i, w => w = .int i
  | .str x, w => w = .str x
  | .tup xs, w => ∃ a ws, w = .ref a ∧ S a = some (.tup ws) ∧ Rels K S xs ws
  | .lst xs, w => ∃ a ws, w = .ref a ∧ S a = some (.lst ws) ∧ Rels K S xs ws
  | .scr xs, w => ∃ a ws, w = .ref a ∧ SqL K S a ws ∧ Rels K S xs ws
  | .obj C fs, w => ∃ a dx gs, w = .ref a ∧ S a = some (.ins C dx gs) ∧ RelF K S fs gs
  | .ref a, w => w = .ref a
  | .ty n, w => w = .ty n
  | .exc a dd v, w => w = .ref a ∧ ∃ u, S dd = some (.xd [("what", u)]) ∧ Rel K S v u
def Rels (K : Fr) (S : Hp) : List Val → List V → Prop
  | [], ws => ws = []
  | x :: xs, ws => ∃ w r, ws = w :: r ∧ Rel K S x w ∧ Rels K S xs r
def RelF (K : Fr) (S : Hp) : List (Str × Val) → List (Str × V) → Prop
  | [], gs => gs = []
  | f :: fs, gs => ∃ w r, gs = (f.1, w) :: r ∧ Rel K S f.2 w ∧ RelF K S fs r
end

/-- S' keeps all of S -/
def Sub (S S' : Hp) : Prop := ∀ a o, S a = some o → S' a = some o
theorem Sub.refl (S : Hp) : Sub S S := fun _ _ h => h
theorem Sub.trans {S S1 S2 : Hp} (a : Sub S S1) (b : Sub S1 S2) : Sub S S2 := fun c o h => b c o (a c o h)
theorem Sub.free {S S' : Hp} (e : Sub S S') {l : Addr} (h : S' l = none) : S l = none := by
  cases q : S l with
  | none => rfl
  | some o => rw [e l o q] at h; cases h
theorem Sub.seqL {K : Fr} {S S' : Hp} {a : Addr} {xs : List V} (e : Sub S S') (h : SqL K S a xs) : SqL K S' a xs := by
  rcases h with (h | ⟨o, h⟩) | h
  · exact .inl (.inl (e _ _ h))
  · exact .inl (.inr ⟨o, e _ _ h⟩)
  · exact .inr h
theorem Sub.seqT {K : Fr} {S S' : Hp} {a : Addr} {xs : List V} (e : Sub S S') (h : SqT K S a xs) : SqT K S' a xs := by
  rcases h with (h | ⟨o, h⟩) | h
  · exact .inl (.inl (e _ _ h))
  · exact .inl (.inr ⟨o, e _ _ h⟩)
  · exact .inr h
theorem Sub.upd {S : Hp} {p : Addr} {o : HO} (h : S p = none) : Sub S (upd S p o) := fun a u e => by
  rw [upd_ne (ne_of_none e h)]; exact e

mutual
theorem Rel.mono {K : Fr} {S S' : Hp} (e : Sub S S') : ∀ (x : Val) (w : V), Rel K S x w → Rel K S' x w
  | .non, _, h => by unfold Rel at *; exact h
  | .bl _, _, h => by unfold Rel at *; exact h
  | .int _, _, h => by unfold Rel at *; exact h
  | .str _, _, h => by unfold Rel at *; exact h
  | .tup xs, _, h => by
    unfold Rel at *; obtain ⟨a, ws, e1, h1, h2⟩ := h; exact ⟨a, ws, e1, e _ _ h1, Rels.mono e xs ws h2⟩
  | .lst xs, _, h => by
    unfold Rel at *; obtain ⟨a, ws, e1, h1, h2⟩ := h; exact ⟨a, ws, e1, e _ _ h1, Rels.mono e xs ws h2⟩
  | .scr xs, _, h => by
    unfold Rel at *; obtain ⟨a, ws, e1, h1, h2⟩ := h; exact ⟨a, ws, e1, e.seqL h1, Rels.mono e xs ws h2⟩
  | .obj C fs, _, h => by
    unfold Rel at *; obtain ⟨a, dx, gs, e1, h1, h2⟩ := h; exact ⟨a, dx, gs, e1, e _ _ h1, RelF.mono e fs gs h2⟩
  | .ref _, _, h => by unfold Rel at *; exact h
  | .ty _, _, h => by unfold Rel at *; exact h
  | .exc a dd v, _, h => by unfold Rel at *; obtain ⟨e1, u, h1, h2⟩ := h; exact ⟨e1, u, e _ _ h1, Rel.mono e v u h2⟩
theorem Rels.mono {K : Fr} {S S' : Hp} (e : Sub S S') : ∀ (xs : List Val) (ws : List V), Rels K S xs ws → Rels K S' xs ws
  | [], _, h => by unfold Rels at *; exact h
  | x :: xs, _, h => by
    unfold Rels at *; obtain ⟨w, r, e1, h1, h2⟩ := h; exact ⟨w, r, e1, Rel.mono e x w h1, Rels.mono e xs r h2⟩
theorem RelF.mono {K : Fr} {S S' : Hp} (e : Sub S S') : ∀ (xs : List (Str × Val)) (ws : List (Str × V)), RelF K S xs ws → RelF K S' xs ws
  | [], _, h => by unfold RelF at *; exact h
  | x :: xs, _, h => by
    unfold RelF at *; obtain ⟨w, r, e1, h1, h2⟩ := h; exact ⟨w, r, e1, Rel.mono e x.2 w h1, RelF.mono e xs r h2⟩
end

section
variable {K : Fr} {S S' : Hp}
theorem rel_exc {a dd : Addr} {v : Val} {w : V} : Rel K S (.exc a dd v) w ↔ w = .ref a ∧ ∃ u, S dd = some (.xd [("what", u)]) ∧ Rel K S v u := by
  constructor <;> intro h
  · unfold Rel at h; exact h
  · unfold Rel; exact h
theorem rel_non {w : V} : Rel K S .non w ↔ w = .non := by unfold Rel; rfl
theorem rel_bl {b : Bool} {w : V} : Rel K S (.bl b) w ↔ w = .bl b := by unfold Rel; rfl
theorem rel_int {i : Int} {w : V} : Rel K S (.int i) w ↔ w = .int i := by unfold Rel; rfl
theorem rel_str {x : Str} {w : V} : Rel K S (.str x) w ↔ w = .str x := by unfold Rel; rfl
theorem rel_ref {a : Addr} {w : V} : Rel K S (.ref a) w ↔ w = .ref a := by unfold Rel; rfl
theorem rel_ty {n : String} {w : V} : Rel K S (.ty n) w ↔ w = .ty n := by unfold Rel; rfl
theorem rel_tup {xs : List Val} {w : V} : Rel K S (.tup xs) w ↔ ∃ a ws, w = .ref a ∧ S a = some (.tup ws) ∧ Rels K S xs ws := by
  constructor <;> intro h
  · unfold Rel at h; exact h
  · unfold Rel; exact h
theorem rel_lst {xs : List Val} {w : V} : Rel K S (.lst xs) w ↔ ∃ a ws, w = .ref a ∧ S a = some (.lst ws) ∧ Rels K S xs ws := by
  constructor <;> intro h
  · unfold Rel at h; exact h
  · unfold Rel; exact h
theorem rel_scr {xs : List Val} {w : V} : Rel K S (.scr xs) w ↔ ∃ a ws, w = .ref a ∧ SqL K S a ws ∧ Rels K S xs ws := by
  constructor <;> intro h
  · unfold Rel at h; exact h
  · unfold Rel; exact h
theorem rel_obj {C : Addr} {fs : List (Str × Val)} {w : V} : Rel K S (.obj C fs) w ↔ ∃ a dx gs, w = .ref a ∧ S a = some (.ins C dx gs) ∧ RelF K S fs gs := by
  constructor <;> intro h
  · unfold Rel at h; exact h
  · unfold Rel; exact h
theorem rels_nil {ws : List V} : Rels K S [] ws ↔ ws = [] := by unfold Rels; rfl
theorem rels_cons {x : Val} {xs : List Val} {ws : List V} : Rels K S (x :: xs) ws ↔ ∃ w r, ws = w :: r ∧ Rel K S x w ∧ Rels K S xs r := by
  constructor <;> intro h
  · unfold Rels at h; exact h
  · unfold Rels; exact h
theorem relf_nil {ws : List (Str × V)} : RelF K S [] ws ↔ ws = [] := by unfold RelF; rfl
theorem relf_cons {x : Str × Val} {xs : List (Str × Val)} {ws : List (Str × V)} : RelF K S (x :: xs) ws ↔ ∃ w r, ws = (x.1, w) :: r ∧ Rel K S x.2 w ∧ RelF K S xs r := by
  constructor <;> intro h
  · unfold RelF at h; exact h
  · unfold RelF; exact h
theorem Rels.length : ∀ {xs : List Val} {ws : List V}, Rels K S xs ws → xs.length = ws.length
  | [], _, h => by rw [rels_nil] at h; subst h; rfl
  | x :: xs, _, h => by
    rw [rels_cons] at h; obtain ⟨w, r, rfl, _, h2⟩ := h
    simp [Rels.length h2]
theorem Rels.get : ∀ {xs : List Val} {ws : List V} {i : Nat} {x : Val}, Rels K S xs ws → xs[i]? = some x → ∃ w, ws[i]? = some w ∧ Rel K S x w
  | [], _, _, _, h, e => by simp at e
  | y :: xs, _, 0, x, h, e => by
    rw [rels_cons] at h; obtain ⟨w, r, rfl, h1, h2⟩ := h
    simp at e; subst e; exact ⟨w, rfl, h1⟩
  | y :: xs, _, i + 1, x, h, e => by
    rw [rels_cons] at h; obtain ⟨w, r, rfl, h1, h2⟩ := h
    obtain ⟨u, h3, h4⟩ := Rels.get (i := i) (x := x) h2 (by simpa using e)
    exact ⟨u, by simpa using h3, h4⟩
theorem Rels.get' : ∀ {xs : List Val} {ws : List V} {i : Nat} {w : V}, Rels K S xs ws → ws[i]? = some w → ∃ x, xs[i]? = some x ∧ Rel K S x w
  | [], _, _, _, h, e => by rw [rels_nil] at h; subst h; simp at e
  | y :: xs, _, 0, x, h, e => by
    rw [rels_cons] at h; obtain ⟨w, r, rfl, h1, h2⟩ := h
    simp at e; subst e; exact ⟨y, rfl, h1⟩
  | y :: xs, _, i + 1, x, h, e => by
    rw [rels_cons] at h; obtain ⟨w, r, rfl, h1, h2⟩ := h
    obtain ⟨u, h3, h4⟩ := Rels.get' (i := i) (w := x) h2 (by simpa using e)
    exact ⟨u, by simpa using h3, h4⟩
theorem Rels.app : ∀ {xs ys : List Val} {us ws : List V}, Rels K S xs us → Rels K S ys ws → Rels K S (xs ++ ys) (us ++ ws)
  | [], _, _, _, h, g => by rw [rels_nil] at h; subst h; exact g
  | x :: xs, ys, _, ws, h, g => by
    rw [rels_cons] at h; obtain ⟨w, r, rfl, h1, h2⟩ := h
    show Rels K S (x :: (xs ++ ys)) (w :: (r ++ ws))
    exact rels_cons.mpr ⟨w, _, rfl, h1, Rels.app h2 g⟩
theorem Rels.one {x : Val} {w : V} (h : Rel K S x w) : Rels K S [x] [w] := rels_cons.mpr ⟨w, [], rfl, h, rels_nil.mpr rfl⟩
theorem Rels.set : ∀ {xs : List Val} {us : List V} {x : Val} {w : V} (i : Nat), Rels K S xs us → Rel K S x w → Rels K S (xs.set i x) (us.set i w)
  | [], _, _, _, _, h, _ => by rw [rels_nil] at h; subst h; exact rels_nil.mpr rfl
  | y :: xs, _, x, w, 0, h, g => by
    rw [rels_cons] at h; obtain ⟨u, r, rfl, h1, h2⟩ := h
    exact rels_cons.mpr ⟨w, r, rfl, g, h2⟩
  | y :: xs, _, x, w, i + 1, h, g => by
    rw [rels_cons] at h; obtain ⟨u, r, rfl, h1, h2⟩ := h
    exact rels_cons.mpr ⟨u, r.set i w, rfl, h1, Rels.set i h2 g⟩
theorem Rels.erase : ∀ {xs : List Val} {us : List V} (i : Nat), Rels K S xs us → Rels K S (xs.eraseIdx i) (us.eraseIdx i)
  | [], _, _, h => by rw [rels_nil] at h; subst h; exact rels_nil.mpr rfl
  | y :: xs, _, 0, h => by
    rw [rels_cons] at h; obtain ⟨u, r, rfl, h1, h2⟩ := h
    exact h2
  | y :: xs, _, i + 1, h => by
    rw [rels_cons] at h; obtain ⟨u, r, rfl, h1, h2⟩ := h
    exact rels_cons.mpr ⟨u, r.eraseIdx i, rfl, h1, Rels.erase i h2⟩
theorem Rels.take : ∀ {xs : List Val} {us : List V} (i : Nat), Rels K S xs us → Rels K S (xs.take i) (us.take i)
  | [], _, i, h => by rw [rels_nil] at h; subst h; simp; exact rels_nil.mpr rfl
  | y :: xs, _, 0, h => by simp; exact rels_nil.mpr rfl
  | y :: xs, _, i + 1, h => by
    rw [rels_cons] at h; obtain ⟨u, r, rfl, h1, h2⟩ := h
    exact rels_cons.mpr ⟨u, r.take i, rfl, h1, Rels.take i h2⟩
theorem Rels.drop : ∀ {xs : List Val} {us : List V} (i : Nat), Rels K S xs us → Rels K S (xs.drop i) (us.drop i)
  | [], _, i, h => by rw [rels_nil] at h; subst h; simp; exact rels_nil.mpr rfl
  | y :: xs, _, 0, h => h
  | y :: xs, _, i + 1, h => by
    rw [rels_cons] at h; obtain ⟨u, r, rfl, h1, h2⟩ := h
    exact Rels.drop i h2
theorem Rels.rev : ∀ {xs : List Val} {us : List V}, Rels K S xs us → Rels K S xs.reverse us.reverse
  | [], _, h => by rw [rels_nil] at h; subst h; exact rels_nil.mpr rfl
  | y :: xs, _, h => by
    rw [rels_cons] at h; obtain ⟨u, r, rfl, h1, h2⟩ := h
    rw [List.reverse_cons, List.reverse_cons]
    exact Rels.app (Rels.rev h2) (Rels.one h1)
theorem Rels.ints : ∀ {ns : List Int} {ws : List V}, Rels K S (ns.map Val.int) ws ↔ ws = ns.map V.int
  | [], ws => by simp [rels_nil]
  | n :: ns, ws => by
    simp only [List.map_cons, rels_cons, rel_int]
    constructor
    · rintro ⟨w, r, rfl, rfl, h⟩; rw [Rels.ints.mp h]
    · intro h; exact ⟨_, _, h, rfl, Rels.ints.mpr rfl⟩
theorem Rels.strs : ∀ {ns : List Str} {ws : List V}, Rels K S (ns.map Val.str) ws ↔ ws = ns.map V.str
  | [], ws => by simp [rels_nil]
  | n :: ns, ws => by
    simp only [List.map_cons, rels_cons, rel_str]
    constructor
    · rintro ⟨w, r, rfl, rfl, h⟩; rw [Rels.strs.mp h]
    · intro h; exact ⟨_, _, h, rfl, Rels.strs.mpr rfl⟩
theorem RelF.lookup : ∀ {fs : List (Str × Val)} {gs : List (Str × V)} {f : Str} {x : Val}, RelF K S fs gs → fs.lookup f = some x → ∃ w, gs.lookup f = some w ∧ Rel K S x w
  | [], _, _, _, h, e => by simp at e
  | (n, y) :: fs, _, f, x, h, e => by
    rw [relf_cons] at h; obtain ⟨w, r, rfl, h1, h2⟩ := h
    simp only [List.lookup] at e ⊢
    cases q : f == n with
    | true => rw [q] at e; simp at e; subst e; exact ⟨w, rfl, h1⟩
    | false => rw [q] at e; exact RelF.lookup h2 e
theorem RelF.lookup_none : ∀ {fs : List (Str × Val)} {gs : List (Str × V)} {f : Str}, RelF K S fs gs → fs.lookup f = none → gs.lookup f = none
  | [], _, _, h, e => by rw [relf_nil] at h; subst h; rfl
  | (n, y) :: fs, _, f, h, e => by
    rw [relf_cons] at h; obtain ⟨w, r, rfl, h1, h2⟩ := h
    simp only [List.lookup] at e ⊢
    cases q : f == n with
    | true => rw [q] at e; simp at e
    | false => rw [q] at e; exact RelF.lookup_none h2 e
theorem RelF.length : ∀ {xs : List (Str × Val)} {ws : List (Str × V)}, RelF K S xs ws → xs.length = ws.length
  | [], _, h => by rw [relf_nil] at h; subst h; rfl
  | x :: xs, _, h => by
    rw [relf_cons] at h; obtain ⟨w, r, rfl, _, h2⟩ := h
    simp [RelF.length h2]
end

/-- stores a field -/
def putv (f : Str) (v : Val) : List (Str × Val) → List (Str × Val)
  | [] => [(f, v)]
  | (n, w) :: r => if n = f then (n, v) :: r else (n, w) :: putv f v r
/-! Z2 -/
/-! the owned heap, the tie to the layer's heap, the judgements -/

/-- an owned object -/
inductive Ob where
  | lst (xs : List Val) | dK (kvs : List (Key × Val)) | dT (kvs : List (List Key × Val)) | ins (C : Addr) (fs : List (Str × Val))
abbrev Ev := List (Option Val)
abbrev Hh := Addr → Option Ob
def hup (h : Hh) (a : Addr) (o : Ob) : Hh := fun b => if b = a then some o else h b
def hdel (h : Hh) (a : Addr) : Hh := fun b => if b = a then none else h b
theorem hup_same {h : Hh} {a : Addr} {o : Ob} : hup h a o a = some o := by unfold hup; rw [if_pos rfl]
theorem hup_ne {h : Hh} {a b : Addr} {o : Ob} (n : b ≠ a) : hup h a o b = h b := by unfold hup; rw [if_neg n]
theorem hdel_same {h : Hh} {a : Addr} : hdel h a a = none := by unfold hdel; rw [if_pos rfl]
theorem hdel_ne {h : Hh} {a b : Addr} (n : b ≠ a) : hdel h a b = h b := by unfold hdel; rw [if_neg n]
theorem hup_hup {h : Hh} {a : Addr} {o u : Ob} : hup (hup h a o) a u = hup h a u := by
  funext b; unfold hup
  by_cases e : b = a
  · rw [if_pos e, if_pos e]
  · simp [e]
theorem hdel_hup {h : Hh} {a : Addr} {o : Ob} (n : h a = none) : hdel (hup h a o) a = h := by
  funext b; unfold hup hdel; split
  · rename_i e; rw [e, n]
  · rename_i e; exact if_neg e
theorem hup_comm {h : Hh} {a b : Addr} {o u : Ob} (n : a ≠ b) : hup (hup h a o) b u = hup (hup h b u) a o := by
  funext c; unfold hup
  by_cases e : c = b
  · have e2 : ¬ c = a := fun z => n (z.symm.trans e)
    simp [e, e2, n.symm]
  · by_cases e2 : c = a
    · simp [e, e2, n]
    · simp [e, e2]
theorem hne {h : Hh} {a b : Addr} {o : Ob} (x : h a = some o) (y : h b = none) : a ≠ b := by
  intro e; subst e; rw [x] at y; cases y

def RelKV {κ : Type} (K : Fr) (S : Hp) : List (κ × Val) → List (κ × V) → Prop := Paired fun p q => p.1 = q.1 ∧ Rel K S p.2 q.2
def RelOb (K : Fr) (S : Hp) : Ob → HO → Prop
  | .lst xs, o => ∃ ws, o = .lst ws ∧ Rels K S xs ws
  | .dK kvs, o => ∃ ws, o = .dK ws ∧ RelKV K S kvs ws
  | .dT kvs, o => ∃ ws, o = .dT ws ∧ RelKV K S kvs ws
  | .ins C fs, o => ∃ dx gs, o = .ins C dx gs ∧ RelF K S fs gs
theorem RelKV.mono {κ : Type} {K : Fr} {S S' : Hp} (e : Sub S S') {xs : List (κ × Val)} {ws : List (κ × V)} (h : RelKV K S xs ws) : RelKV K S' xs ws :=
  Paired.mapP h fun p q z => ⟨z.1, Rel.mono e _ _ z.2⟩
theorem RelOb.mono {K : Fr} {S S' : Hp} (e : Sub S S') {o : Ob} {u : HO} (h : RelOb K S o u) : RelOb K S' o u := by
  cases o with
  | lst xs => obtain ⟨ws, e1, h1⟩ := h; exact ⟨ws, e1, Rels.mono e _ _ h1⟩
  | dK xs => obtain ⟨ws, e1, h1⟩ := h; exact ⟨ws, e1, h1.mono e⟩
  | dT xs => obtain ⟨ws, e1, h1⟩ := h; exact ⟨ws, e1, h1.mono e⟩
  | ins C fs => obtain ⟨dx, gs, e1, h1⟩ := h; exact ⟨dx, gs, e1, RelF.mono e _ _ h1⟩

/-- S: what never changes again; F: held back; h: owned; H: the layer's heap -/
structure R (K : Fr) (S F H : Hp) (h : Hh) : Prop where
  sub : Sub S H
  frm : ∀ a o, F a = some o → H a = some o ∧ S a = none ∧ h a = none
  own : ∀ a o, h a = some o → S a = none ∧ ∃ u, H a = some u ∧ RelOb K S o u
def Rls (K : Fr) (S : Hp) (ρ : Ev) (σ : St) : Prop := ρ.length = σ.length ∧ ∀ (i : Nat) (v : Val), ρ[i]? = some (some v) → ∃ w, σ[i]? = some (some w) ∧ Rel K S v w

section
variable {K : Fr} {S S' F H : Hp} {h : Hh} {ρ : Ev} {σ : St} {a p : Addr} {o : Ob} {u : HO}
theorem Rls.mono (e : Sub S S') (r : Rls K S ρ σ) : Rls K S' ρ σ := ⟨r.1, fun i v q => by
  obtain ⟨w, h1, h2⟩ := r.2 i v q; exact ⟨w, h1, Rel.mono e _ _ h2⟩⟩
theorem Rls.set (r : Rls K S ρ σ) (i : Nat) {v : Val} {w : V} (x : Rel K S v w) : Rls K S (ρ.set i (some v)) (σ.set i (some w)) := ⟨by simp [r.1], fun j y q => by
  by_cases e : i = j
  · subst e
    have hl : i < ρ.length := by
      obtain ⟨z, _⟩ := List.getElem?_eq_some_iff.mp q
      simpa using z
    rw [List.getElem?_set_self (by simpa using hl)] at q
    cases q
    exact ⟨w, by rw [List.getElem?_set_self (by rw [← r.1]; exact hl)], x⟩
  · rw [List.getElem?_set_ne e] at q ⊢
    exact r.2 j y q⟩
theorem Rls.unset (r : Rls K S ρ σ) (i : Nat) {w : Option V} : Rls K S (ρ.set i none) (σ.set i w) := ⟨by simp [r.1], fun j y q => by
  by_cases e : i = j
  · subst e
    have hl : i < ρ.length := by
      obtain ⟨z, _⟩ := List.getElem?_eq_some_iff.mp q
      simpa using z
    rw [List.getElem?_set_self (by simpa using hl)] at q
    cases q
  · rw [List.getElem?_set_ne e] at q ⊢
    exact r.2 j y q⟩
/-- a new object that is never changed again -/
theorem R.frozen (r : R K S F H h) (n : H p = none) : R K (upd S p u) F (upd H p u) h ∧ Sub S (upd S p u) := by
  have nS : S p = none := r.sub.free n
  refine ⟨⟨fun a o e => ?_, fun a o e => ?_, fun a o e => ?_⟩, Sub.upd nS⟩
  · by_cases q : a = p
    · subst q; rw [upd_same] at e ⊢; exact e
    · rw [upd_ne q] at e ⊢; exact r.sub _ _ e
  · obtain ⟨h1, h2, h3⟩ := r.frm a o e
    have q : a ≠ p := ne_of_none h1 n
    exact ⟨by rw [upd_ne q]; exact h1, by rw [upd_ne q]; exact h2, h3⟩
  · obtain ⟨h1, v, h2, h3⟩ := r.own a o e
    have q : a ≠ p := ne_of_none h2 n
    exact ⟨by rw [upd_ne q]; exact h1, v, by rw [upd_ne q]; exact h2, h3.mono (Sub.upd nS)⟩
/-- a new object that is owned -/
theorem R.owned (r : R K S F H h) (n : H p = none) (x : RelOb K S o u) : R K S F (upd H p u) (hup h p o) := by
  have nS : S p = none := r.sub.free n
  refine ⟨fun a o e => ?_, fun a o e => ?_, fun a o e => ?_⟩
  · rw [upd_ne (ne_of_none e nS)]; exact r.sub _ _ e
  · obtain ⟨h1, h2, h3⟩ := r.frm a o e
    have q : a ≠ p := ne_of_none h1 n
    exact ⟨by rw [upd_ne q]; exact h1, h2, by rw [hup_ne q]; exact h3⟩
  · by_cases q : a = p
    · subst q; rw [hup_same] at e; cases e; exact ⟨nS, u, upd_same, x⟩
    · rw [hup_ne q] at e
      obtain ⟨h1, v, h2, h3⟩ := r.own a o e
      exact ⟨h1, v, by rw [upd_ne q]; exact h2, h3⟩
theorem R.fresh (r : R K S F H h) (n : H p = none) : h p = none := by
  cases q : h p with
  | none => rfl
  | some o => obtain ⟨_, u, h2, _⟩ := r.own _ _ q; rw [n] at h2; cases h2
/-- a store into an owned object -/
theorem R.store {o' : Ob} (r : R K S F H h) (e : h p = some o') (x : RelOb K S o u) : R K S F (upd H p u) (hup h p o) := by
  obtain ⟨nS, v, hv, _⟩ := r.own _ _ e
  refine ⟨fun a o e => ?_, fun a o q => ?_, fun a o e => ?_⟩
  · rw [upd_ne (ne_of_none e nS)]; exact r.sub _ _ e
  · obtain ⟨h1, h2, h3⟩ := r.frm a o q
    have q : a ≠ p := fun z => by subst z; rw [h3] at e; cases e
    exact ⟨by rw [upd_ne q]; exact h1, h2, by rw [hup_ne q]; exact h3⟩
  · by_cases q : a = p
    · subst q; rw [hup_same] at e; cases e; exact ⟨nS, u, upd_same, x⟩
    · rw [hup_ne q] at e
      obtain ⟨h1, v, h2, h3⟩ := r.own a o e
      exact ⟨h1, v, by rw [upd_ne q]; exact h2, h3⟩
/-- what is owned is let go -/
theorem R.drop {h' : Hh} (r : R K S F H h) (e : ∀ a o, h' a = some o → h a = some o) : R K S F H h' :=
  ⟨r.sub, fun a o q => ⟨(r.frm a o q).1, (r.frm a o q).2.1, (by
    cases z : h' a with
    | none => rfl
    | some o' => have h3 := (r.frm a o q).2.2; rw [e _ _ z] at h3; cases h3)⟩, fun a o q => r.own a o (e _ _ q)⟩
/-- an owned object is never changed again -/
theorem R.freeze (r : R K S F H h) (e : h p = some o) : ∃ u, RelOb K S o u ∧ R K (upd S p u) F H (hdel h p) ∧ Sub S (upd S p u) := by
  obtain ⟨nS, u, hu, x⟩ := r.own _ _ e
  refine ⟨u, x, ⟨fun a o e => ?_, fun a o q => ?_, fun a o q => ?_⟩, Sub.upd nS⟩
  · by_cases q : a = p
    · subst q; rw [upd_same] at e; cases e; exact hu
    · rw [upd_ne q] at e; exact r.sub _ _ e
  · obtain ⟨h1, h2, h3⟩ := r.frm a o q
    have q : a ≠ p := fun z => by subst z; rw [h3] at e; cases e
    exact ⟨h1, by rw [upd_ne q]; exact h2, by rw [hdel_ne q]; exact h3⟩
  · by_cases z : a = p
    · subst z; rw [hdel_same] at q; cases q
    · rw [hdel_ne z] at q
      obtain ⟨h1, v, h2, h3⟩ := r.own a o q
      exact ⟨by rw [upd_ne z]; exact h1, v, h2, h3.mono (Sub.upd nS)⟩
/-- held back -/
theorem R.hold (r : R K S F H h) (e : h p = some o) : ∃ u, H p = some u ∧ RelOb K S o u ∧ R K S (upd F p u) H (hdel h p) := by
  obtain ⟨nS, u, hu, x⟩ := r.own _ _ e
  refine ⟨u, hu, x, ⟨r.sub, fun a v q => ?_, fun a o q => ?_⟩⟩
  · by_cases z : a = p
    · subst z; rw [upd_same] at q; cases q; exact ⟨hu, nS, hdel_same⟩
    · rw [upd_ne z] at q
      obtain ⟨h1, h2, h3⟩ := r.frm a _ q
      exact ⟨h1, h2, by rw [hdel_ne z]; exact h3⟩
  · by_cases z : a = p
    · subst z; rw [hdel_same] at q; cases q
    · rw [hdel_ne z] at q; exact r.own a o q
/-- taken back from what is held -/
theorem R.unhold (r : R K S (upd F p u) H h) (n : F p = none) (x : RelOb K S o u) : H p = some u ∧ R K S F H (hup h p o) := by
  obtain ⟨h1, h2, h3⟩ := r.frm p u upd_same
  refine ⟨h1, r.sub, fun a v q => ?_, fun a v q => ?_⟩
  · have z : a ≠ p := ne_of_none q n
    obtain ⟨g1, g2, g3⟩ := r.frm a v (by rw [upd_ne z]; exact q)
    exact ⟨g1, g2, by rw [hup_ne z]; exact g3⟩
  · by_cases z : a = p
    · subst z; rw [hup_same] at q; cases q; exact ⟨h2, u, h1, x⟩
    · rw [hup_ne z] at q; exact r.own a v q
end

/-! ### the judgements -/
abbrev KQ := Val → Hh → Prop
abbrev XQ := Addr → Val → Hh → Prop
abbrev XS := Addr → Val → Ev → Hh → Prop
abbrev WE := Ev → Hh → XQ → KQ → Prop
abbrev WT := Ev → Hh → XQ → (Bool → Hh → Prop) → Prop
abbrev WA := Ev → Hh → XQ → (List Val → Hh → Prop) → Prop
abbrev EH := Ev → Hh → Prop
/-- nx, rt, bk, ct, xe -/
abbrev WS := EH → KQ → EH → EH → XS → EH

section
variable (K : Fr) (S F : Hp)
def LQ (Q' : KQ) (Q : VK) : Prop := ∀ v h' S' w H', Q' v h' → Sub S S' → R K S' F H' h' → Rel K S' v w → Q w H'
def LB (Q' : Bool → Hh → Prop) (Q : Bool → Hp → Prop) : Prop := ∀ v h' S' H', Q' v h' → Sub S S' → R K S' F H' h' → Q v H'
def LA (Q' : List Val → Hh → Prop) (Q : List V → Hp → Prop) : Prop := ∀ v h' S' w H', Q' v h' → Sub S S' → R K S' F H' h' → Rels K S' v w → Q w H'
def LN (Q' : EH) (Q : St → Hp → Prop) : Prop := ∀ ρ h' S' σ H', Q' ρ h' → Sub S S' → R K S' F H' h' → Rls K S' ρ σ → Q σ H'
def LX (E' : XQ) (W : WX) (σ : St) : Prop := ∀ C v h' S' w d H', E' C v h' → Sub S S' → R K S' F H' h' → Rel K S' v w → S' d = some (.xd [("what", w)]) → W (.ref C) (some d) σ H'
def LXS (E' : XS) (W : WX) : Prop := ∀ C v ρ h' S' w d σ H', E' C v ρ h' → Sub S S' → R K S' F H' h' → Rls K S' ρ σ → Rel K S' v w → S' d = some (.xd [("what", w)]) → W (.ref C) (some d) σ H'
end
section
variable {K : Fr} {S S1 F : Hp}
theorem LQ.mono {Q' : KQ} {Q : VK} (l : LQ K S F Q' Q) (e : Sub S S1) : LQ K S1 F Q' Q := fun v h' S' w H' q e' => l v h' S' w H' q (e.trans e')
theorem LB.mono {Q' : Bool → Hh → Prop} {Q : Bool → Hp → Prop} (l : LB K S F Q' Q) (e : Sub S S1) : LB K S1 F Q' Q := fun v h' S' H' q e' => l v h' S' H' q (e.trans e')
theorem LA.mono {Q' : List Val → Hh → Prop} {Q : List V → Hp → Prop} (l : LA K S F Q' Q) (e : Sub S S1) : LA K S1 F Q' Q := fun v h' S' w H' q e' => l v h' S' w H' q (e.trans e')
theorem LN.mono {Q' : EH} {Q : St → Hp → Prop} (l : LN K S F Q' Q) (e : Sub S S1) : LN K S1 F Q' Q := fun v h' S' w H' q e' => l v h' S' w H' q (e.trans e')
theorem LX.mono {E' : XQ} {W : WX} {σ : St} (l : LX K S F E' W σ) (e : Sub S S1) : LX K S1 F E' W σ := fun C v h' S' w d H' q e' => l C v h' S' w d H' q (e.trans e')
theorem LXS.mono {E' : XS} {W : WX} (l : LXS K S F E' W) (e : Sub S S1) : LXS K S1 F E' W := fun C v ρ h' S' w d σ H' q e' => l C v ρ h' S' w d σ H' q (e.trans e')
theorem LXS.at {E' : XS} {W : WX} {ρ : Ev} {σ : St} (l : LXS K S F E' W) (r : Rls K S ρ σ) : LX K S F (fun C v h => E' C v ρ h) W σ := fun C v h' S' w d H' q e' r' x z => l C v ρ h' S' w d σ H' q e' r' (r.mono e') x z
end
section
variable (K : Fr) (W : WX)
def lE (t : WE) : L2.TE := fun σ H Q => ∃ S F ρ h E' Q', R K S F H h ∧ Rls K S ρ σ ∧ t ρ h E' Q' ∧ LQ K S F Q' Q ∧ LX K S F E' W σ
def lT (t : WT) : L2.TT := fun σ H Q => ∃ S F ρ h E' Q', R K S F H h ∧ Rls K S ρ σ ∧ t ρ h E' Q' ∧ LB K S F Q' Q ∧ LX K S F E' W σ
def lA (t : WA) : L2.TA := fun σ H Q => ∃ S F ρ h E' Q', R K S F H h ∧ Rls K S ρ σ ∧ t ρ h E' Q' ∧ LA K S F Q' Q ∧ LX K S F E' W σ
def lS (t : WS) : L2.TS := fun D σ H => ∃ S F ρ h nx rt bk ct xe, R K S F H h ∧ Rls K S ρ σ ∧ t nx rt bk ct xe ρ h ∧ LN K S F nx D.nx ∧ LQ K S F rt D.rt ∧ LN K S F bk D.bk ∧ LN K S F ct D.ct ∧ LXS K S F xe W
end
structure ZE (X : Cx) (W : WX) (e : Expr) (t : WE) : Prop where
  pe : PE X e (lE X.K W t)
structure ZT (X : Cx) (W : WX) (e : Expr) (t : WT) : Prop where
  pt : PT X e (lT X.K W t)
structure ZW (X : Cx) (W : WX) (e : Expr) (t : WT) : Prop where
  pw : PW X e (lT X.K W t)
structure ZA (X : Cx) (W : WX) (es : List Expr) (t : WA) : Prop where
  pa : PA X es (lA X.K W t)
structure ZS (X : Cx) (W : WX) (st : Stmt) (t : WS) : Prop where
  ps : PS X st (lS X.K W t)
structure ZB (X : Cx) (W : WX) (st : List Stmt) (t : WS) : Prop where
  pss : PSs X st (lS X.K W t)
theorem pe_imp {X : Cx} {e : Expr} {t t' : L2.TE} (h : PE X e t) (i : ∀ σ H Q, t' σ H Q → t σ H Q) : PE X e t' := ⟨fun pins s σ H Q I q => h.run pins s σ H Q I (i _ _ _ q)⟩
theorem pt_imp {X : Cx} {e : Expr} {t t' : L2.TT} (h : PT X e t) (i : ∀ σ H Q, t' σ H Q → t σ H Q) : PT X e t' := ⟨fun pins s σ H Q I q => h.run pins s σ H Q I (i _ _ _ q)⟩
theorem pw_imp {X : Cx} {e : Expr} {t t' : L2.TT} (h : PW X e t) (i : ∀ σ H Q, t' σ H Q → t σ H Q) : PW X e t' := ⟨fun w pins s σ H Q I q => h.run w pins s σ H Q I (i _ _ _ q)⟩
theorem pa_imp {X : Cx} {e : List Expr} {t t' : L2.TA} (h : PA X e t) (i : ∀ σ H Q, t' σ H Q → t σ H Q) : PA X e t' := ⟨fun w pins s σ H Q I q => h.run w pins s σ H Q I (i _ _ _ q)⟩
theorem ps_imp {X : Cx} {e : Stmt} {t t' : L2.TS} (h : PS X e t) (i : ∀ D σ H, t' D σ H → t D σ H) : PS X e t' := ⟨fun pins s σ H D I q => h.run pins s σ H D I (i _ _ _ q)⟩
theorem pss_imp {X : Cx} {e : List Stmt} {t t' : L2.TS} (h : PSs X e t) (i : ∀ D σ H, t' D σ H → t D σ H) : PSs X e t' := ⟨fun pins s σ H D I q => h.run pins s σ H D I (i _ _ _ q)⟩

/-! ### names, constants, displays -/
section
variable {X : Cx} {W : WX} {pos : Pos}
def wVar (i : Nat) : WE := fun ρ h _ Q => ∃ v, ρ[i]? = some (some v) ∧ Q v h
def wC (v : Val) : WE := fun _ h _ Q => Q v h
theorem zv (i : Nat) {x : Str} {pos : Pos} (hN : X.N[i]? = some x := by rfl) (hv : Vis X.env.scope x := by first | exact Or.inl rfl | exact Or.inr (Or.inl rfl) | exact Or.inr (Or.inr rfl)) (hd : (x == ("__debug__" : Str)) = false := by decide)
    (hcd : (x == ("__classdict__" : Str)) = false := by decide) : ZE X W (.Name x pos) (wVar i) :=
  ⟨pe_imp (pe_var hN hv hd hcd) fun σ H Q ⟨S, F, ρ, h, E', Q', r, rl, ⟨v, e, q⟩, lq, _⟩ => by
    obtain ⟨w, e1, x1⟩ := rl.2 i v e
    exact ⟨w, e1, lq v h S w H q (Sub.refl S) r x1⟩⟩
theorem zc {e : Expr} {v : Val} {w : V} (hp : PE X e (tC w)) (hr : ∀ S, Rel X.K S v w) : ZE X W e (wC v) :=
  ⟨pe_imp hp fun σ H Q ⟨S, F, ρ, h, E', Q', r, rl, q, lq, _⟩ => lq v h S w H q (Sub.refl S) r (hr S)⟩
theorem zint {i j} : ZE X W (.Constant (.int i) j pos) (wC (.int i)) := zc pe_int fun _ => rel_int.mpr rfl
theorem zbl {i j} : ZE X W (.Constant (.bool i) j pos) (wC (.bl i)) := zc pe_bl fun _ => rel_bl.mpr rfl
theorem znon {j} : ZE X W (.Constant .none j pos) (wC .non) := zc pe_non fun _ => rel_non.mpr rfl
theorem zstr {i j} : ZE X W (.Constant (.str i) j pos) (wC (.str i)) := zc pe_str fun _ => rel_str.mpr rfl
/-- a module's constant -/
theorem zglob {x : Str} {v : Val} {w : V} {u : Value} (hg : Gl X x) (hm : X.mg x = some u) (r : RelV w u) (hr : ∀ S, Rel X.K S v w) (hd : (x == ("__debug__" : Str)) = false := by decide) : ZE X W (.Name x pos) (wC v) := zc (pe_glob hg hm r hd) hr

def wNil : WA := fun _ h _ Q => Q [] h
def wCons (ta : WE) (tr : WA) : WA := fun ρ h E Q => ta ρ h E fun x h1 => tr ρ h1 E fun xs h2 => Q (x :: xs) h2
theorem za_nil : ZA X W [] wNil := ⟨pa_imp pa_nil fun σ H Q ⟨S, F, ρ, h, E', Q', r, rl, q, lq, _⟩ => lq [] h S [] H q (Sub.refl S) r (rels_nil.mpr rfl)⟩
theorem za_cons {e : Expr} {es : List Expr} {ta : WE} {t : WA} (ha : ZE X W e ta) (hr : ZA X W es t) (hs : starEach (e :: es) X.env = (false, eval e X.env) :: starEach es X.env := by rfl) : ZA X W (e :: es) (wCons ta t) :=
  ⟨pa_imp (pa_cons ha.pe hr.pa hs) fun σ H Q ⟨S, F, ρ, h, E', Q', r, rl, q, lq, lx⟩ =>
    ⟨S, F, ρ, h, E', _, r, rl, q, fun x h1 S1 w H1 q1 s1 r1 x1 => ⟨S1, F, ρ, h1, E', _, r1, rl.mono s1, q1, fun xs h2 S2 ws H2 q2 s2 r2 x2 =>
      lq _ h2 S2 _ H2 q2 (s1.trans s2) r2 (rels_cons.mpr ⟨w, ws, rfl, Rel.mono s2 _ _ x1, x2⟩), lx.mono s1⟩, lx⟩⟩
def small (n : Nat) : Prop := n ≤ 16000000
theorem small.line {n : Nat} (h : small n) : n ≤ sizeLine := by
  have e := sizeLine_eq
  unfold small at h; omega
def wTup (t : WA) : WE := fun ρ h E Q => t ρ h E fun xs h1 => small xs.length ∧ Q (.tup xs) h1
/-- a new list: owned, or never changed again -/
def NewL (xs : List Val) (h : Hh) (Q : KQ) : Prop := (∀ a, h a = none → Q (.ref a) (hup h a (.lst xs))) ∨ Q (.lst xs) h
def wLst (t : WA) : WE := fun ρ h E Q => t ρ h E fun xs h1 => small xs.length ∧ NewL xs h1 Q
theorem newl {K : Fr} {S F H : Hp} {h : Hh} {xs : List Val} {ws : List V} {Q' : KQ} {Q : VK} {p : Addr} (r : R K S F H h) (x : Rels K S xs ws) (q : NewL xs h Q') (lq : LQ K S F Q' Q) (n : H p = none) : Q (.ref p) (upd H p (.lst ws)) := by
  rcases q with q | q
  · exact lq _ _ S _ _ (q p (r.fresh n)) (Sub.refl S) (r.owned n ⟨ws, rfl, x⟩) (rel_ref.mpr rfl)
  · obtain ⟨r2, s2⟩ := r.frozen (u := .lst ws) n
    exact lq _ _ _ _ _ q s2 r2 (rel_lst.mpr ⟨p, ws, rfl, upd_same, Rels.mono s2 _ _ x⟩)
theorem newt {K : Fr} {S F H : Hp} {h : Hh} {xs : List Val} {ws : List V} {Q' : KQ} {Q : VK} {p : Addr} (r : R K S F H h) (x : Rels K S xs ws) (q : Q' (.tup xs) h) (lq : LQ K S F Q' Q) (n : H p = none) : Q (.ref p) (upd H p (.tup ws)) := by
  obtain ⟨r2, s2⟩ := r.frozen (u := .tup ws) n
  exact lq _ _ _ _ _ q s2 r2 (rel_tup.mpr ⟨p, ws, rfl, upd_same, Rels.mono s2 _ _ x⟩)
theorem ztup {es : List Expr} {t : WA} {x1} (ha : ZA X W es t) : ZE X W (.Tuple es x1 pos) (wTup t) :=
  ⟨pe_imp (pe_tup ha.pa) fun σ H Q ⟨S, F, ρ, h, E', Q', r, rl, q, lq, lx⟩ =>
    ⟨S, F, ρ, h, E', _, r, rl, q, fun xs h1 S1 ws H1 q1 s1 r1 x1 => ⟨by rw [← x1.length]; exact q1.1.line, fun p n => newt r1 x1 q1.2 (lq.mono s1) n⟩, lx⟩⟩
theorem zlst {es : List Expr} {t : WA} (ha : ZA X W es t) : ZE X W (.List es pos) (wLst t) :=
  ⟨pe_imp (pe_lst ha.pa) fun σ H Q ⟨S, F, ρ, h, E', Q', r, rl, q, lq, lx⟩ =>
    ⟨S, F, ρ, h, E', _, r, rl, q, fun xs h1 S1 ws H1 q1 s1 r1 x1 => ⟨by rw [← x1.length]; exact q1.1.line, fun p n => newl r1 x1 q1.2 (lq.mono s1) n⟩, lx⟩⟩

/-! ### operators -/
abbrev W2 := Val → Val → Hh → KQ → Prop
def Snd2 (K : Fr) (r' : W2) (r : R2) : Prop := ∀ S F H h x y v w Q' Q, R K S F H h → Rel K S x v → Rel K S y w → r' x y h Q' → LQ K S F Q' Q → r v w H Q
def wOp (r : W2) (ta tb : WE) : WE := fun ρ h E Q => ta ρ h E fun x h1 => tb ρ h1 E fun y h2 => r x y h2 Q
theorem zop {a b : Expr} {ta tb : WE} {op : Operator} {r : R2} {r' : W2} (o : OpR X (binaryOp op) r) (s : Snd2 X.K r' r) (ha : ZE X W a ta) (hb : ZE X W b tb) : ZE X W (.BinOp a op b pos) (wOp r' ta tb) :=
  ⟨pe_imp (pe_op o ha.pe hb.pe) fun σ H Q ⟨S, F, ρ, h, E', Q', r, rl, q, lq, lx⟩ =>
    ⟨S, F, ρ, h, E', _, r, rl, q, fun x h1 S1 v H1 q1 s1 r1 x1 => ⟨S1, F, ρ, h1, E', _, r1, rl.mono s1, q1, fun y h2 S2 w H2 q2 s2 r2 x2 =>
      s S2 F H2 h2 x y v w _ Q r2 (Rel.mono s2 _ _ x1) x2 q2 ((lq.mono s1).mono s2), lx.mono s1⟩, lx⟩⟩
/-- two ints -/
def wI (C : Int → Int → Prop) (g : Int → Int → Val) : W2 := fun x y h Q => ∃ i j, x = .int i ∧ y = .int j ∧ C i j ∧ Q (g i j) h
def wI0 (g : Int → Int → Val) : W2 := fun x y h Q => ∃ i j, x = .int i ∧ y = .int j ∧ Q (g i j) h
theorem snd_I {K : Fr} {C : Int → Int → Prop} {g : Int → Int → Val} {g' : Int → Int → V} (hg : ∀ S i j, Rel K S (g i j) (g' i j)) : Snd2 K (wI C g) (rI C g') := fun S F H h x y v w Q' Q r rx ry q lq => by
  obtain ⟨i, j, rfl, rfl, c, q⟩ := q
  exact ⟨i, j, rel_int.mp rx, rel_int.mp ry, c, lq _ _ S _ _ q (Sub.refl S) r (hg S i j)⟩
theorem snd_I0 {K : Fr} {g : Int → Int → Val} {g' : Int → Int → V} (hg : ∀ S i j, Rel K S (g i j) (g' i j)) : Snd2 K (wI0 g) (rI0 g') := fun S F H h x y v w Q' Q r rx ry q lq => by
  obtain ⟨i, j, rfl, rfl, q⟩ := q
  exact ⟨i, j, rel_int.mp rx, rel_int.mp ry, lq _ _ S _ _ q (Sub.refl S) r (hg S i j)⟩
end
/-! Z3 -/
/-! tests, comparisons, subscripts, fields -/
section
variable {X : Cx} {W : WX} {pos : Pos}
/-! ### readings that fall through -/
theorem lE_go {K : Fr} {W : WX} {t : WE} {σ : L2.St} {H : Hp} {Q : VK} {S F : Hp} {ρ : Ev} {h : Hh} {E' : XQ} {Q' : KQ} (r : R K S F H h) (rl : Rls K S ρ σ) (q : t ρ h E' Q') (lx : LX K S F E' W σ) (lq : LQ K S F Q' Q) : lE K W t σ H Q := ⟨S, F, ρ, h, E', Q', r, rl, q, lq, lx⟩

/-! ### comparisons as values and as tests -/
theorem zcmp {a b : Expr} {ta tb : WE} {op : CmpOp} {r : R2} {r' : W2} (o : OpR X (compareOp op) r) (s : Snd2 X.K r' r) (ha : ZE X W a ta) (hb : ZE X W b tb) (h1 : behindInMarks op b = false) : ZE X W (.Compare a [op] [b] pos) (wOp r' ta tb) :=
  ⟨pe_imp (pe_cmpR o ha.pe hb.pe h1) fun σ H Q ⟨S, F, ρ, h, E', Q', r, rl, q, lq, lx⟩ =>
    ⟨S, F, ρ, h, E', _, r, rl, q, fun x h1 S1 v H1 q1 s1 r1 x1 => ⟨S1, F, ρ, h1, E', _, r1, rl.mono s1, q1, fun y h2 S2 w H2 q2 s2 r2 x2 =>
      s S2 F H2 h2 x y v w _ Q r2 (Rel.mono s2 _ _ x1) x2 q2 ((lq.mono s1).mono s2), lx.mono s1⟩, lx⟩⟩
/-- an expression that gives True or False, as a test -/
def wTv (t : WE) : WT := fun ρ h E Q => t ρ h E fun v h1 => ∃ c, v = .bl c ∧ Q c h1
theorem ztv {e : Expr} {t : WE} (h : ZE X W e t) (he : ∀ whole, isTrue e X.env whole = (do let v ← whole; standAt e.pos; holding [v] (truthy v)) := by intro _; rfl) : ZT X W e (wTv t) :=
  ⟨pt_imp (pt_val h.pe he) fun σ H Q ⟨S, F, ρ, h, E', Q', r, rl, q, lq, lx⟩ =>
    ⟨S, F, ρ, h, E', _, r, rl, q, fun x h1 S1 v H1 q1 s1 r1 x1 => by
      obtain ⟨c, rfl, q1⟩ := q1
      exact ⟨c, rel_bl.mp x1, lq _ _ _ _ q1 s1 r1⟩, lx⟩⟩
theorem ztc {a b : Expr} {ta tb : WE} {op : CmpOp} {r : R2} {r' : W2} (o : OpR X (compareOp op) r) (s : Snd2 X.K r' r) (ha : ZE X W a ta) (hb : ZE X W b tb) (h1 : behindInMarks op b = false) : ZT X W (.Compare a [op] [b] pos) (wTv (wOp r' ta tb)) :=
  ⟨pt_imp (pt_cmpR o ha.pe hb.pe h1) fun σ H Q ⟨S, F, ρ, h, E', Q', r, rl, q, lq, lx⟩ =>
    ⟨S, F, ρ, h, E', _, r, rl, q, fun x h1 S1 v H1 q1 s1 r1 x1 => ⟨S1, F, ρ, h1, E', _, r1, rl.mono s1, q1, fun y h2 S2 w H2 q2 s2 r2 x2 =>
      s S2 F H2 h2 x y v w _ _ r2 (Rel.mono s2 _ _ x1) x2 q2 fun z h3 S3 u H3 q3 s3 r3 x3 => by
        obtain ⟨c, rfl, q3⟩ := q3
        exact ⟨c, rel_bl.mp x3, lq _ _ _ _ q3 ((s1.trans s2).trans s3) r3⟩, lx.mono s1⟩, lx⟩⟩
def wNot (t : WT) : WT := fun ρ h E Q => t ρ h E fun b h1 => Q (!b) h1
theorem ztnot {a : Expr} {t : WT} (h : ZT X W a t) : ZT X W (.UnaryOp .Not a pos) (wNot t) :=
  ⟨pt_imp (pt_not h.pt) fun σ H Q ⟨S, F, ρ, h, E', Q', r, rl, q, lq, lx⟩ =>
    ⟨S, F, ρ, h, E', _, r, rl, q, fun b h1 S1 H1 q1 s1 r1 => lq _ _ _ _ q1 s1 r1, lx⟩⟩
def wAnd (t u : WT) : WT := fun ρ h E Q => t ρ h E fun c h1 => if c = true then u ρ h1 E Q else Q false h1
def wOr (t u : WT) : WT := fun ρ h E Q => t ρ h E fun c h1 => if c = true then Q true h1 else u ρ h1 E Q
theorem zw1 {op} {a : Expr} {t : WT} (h : ZT X W a t) : ZW X W (.BoolOp op [a] pos) t := ⟨by cases op with
  | And => exact pw_and1 h.pt
  | Or => exact pw_or1 h.pt⟩
theorem zwand {a b : Expr} {rest : List Expr} {t u : WT} (h : ZT X W a t) (h2 : ZW X W (.BoolOp .And (b :: rest) pos) u) : ZW X W (.BoolOp .And (a :: b :: rest) pos) (wAnd t u) :=
  ⟨pw_imp (pw_and h.pt h2.pw) fun σ H Q ⟨S, F, ρ, h, E', Q', r, rl, q, lq, lx⟩ =>
    ⟨S, F, ρ, h, E', _, r, rl, q, fun c h1 S1 H1 q1 s1 r1 => by
      cases c with
      | true => exact iteT ⟨S1, F, ρ, h1, E', Q', r1, rl.mono s1, q1, lq.mono s1, lx.mono s1⟩
      | false => exact iteF (lq _ _ _ _ q1 s1 r1), lx⟩⟩
theorem zwor {a b : Expr} {rest : List Expr} {t u : WT} (h : ZT X W a t) (h2 : ZW X W (.BoolOp .Or (b :: rest) pos) u) : ZW X W (.BoolOp .Or (a :: b :: rest) pos) (wOr t u) :=
  ⟨pw_imp (pw_or h.pt h2.pw) fun σ H Q ⟨S, F, ρ, h, E', Q', r, rl, q, lq, lx⟩ =>
    ⟨S, F, ρ, h, E', _, r, rl, q, fun c h1 S1 H1 q1 s1 r1 => by
      cases c with
      | true => exact iteT (lq _ _ _ _ q1 s1 r1)
      | false => exact iteF ⟨S1, F, ρ, h1, E', Q', r1, rl.mono s1, q1, lq.mono s1, lx.mono s1⟩, lx⟩⟩
theorem ztw {a : Expr} {t : WT} (h : ZW X W a t) : ZT X W a t := ⟨h.pw.pt⟩
/-- and, or, not of True, False as values -/
def wAndV (ta tb : WE) : WE := fun ρ h E Q => ta ρ h E fun x h1 => ∃ c, x = .bl c ∧ if c = true then tb ρ h1 E Q else Q (.bl false) h1
def wOrV (ta tb : WE) : WE := fun ρ h E Q => ta ρ h E fun x h1 => ∃ c, x = .bl c ∧ if c = true then Q (.bl true) h1 else tb ρ h1 E Q
def wNotV (ta : WE) : WE := fun ρ h E Q => ta ρ h E fun x h1 => ∃ c, x = .bl c ∧ Q (.bl (!c)) h1
theorem zone {op} {a : Expr} {t : WE} (h : ZE X W a t) : ZE X W (.BoolOp op [a] pos) t := ⟨pe_one h.pe⟩
theorem zand {a b : Expr} {rest : List Expr} {t u : WE} (h : ZE X W a t) (h2 : ZE X W (.BoolOp .And (b :: rest) pos) u) : ZE X W (.BoolOp .And (a :: b :: rest) pos) (wAndV t u) :=
  ⟨pe_imp (pe_and h.pe h2.pe) fun σ H Q ⟨S, F, ρ, h, E', Q', r, rl, q, lq, lx⟩ =>
    ⟨S, F, ρ, h, E', _, r, rl, q, fun x h1 S1 v H1 q1 s1 r1 x1 => by
      obtain ⟨c, rfl, q1⟩ := q1
      refine ⟨c, rel_bl.mp x1, ?_⟩
      cases c with
      | true => exact iteT ⟨S1, F, ρ, h1, E', Q', r1, rl.mono s1, q1, lq.mono s1, lx.mono s1⟩
      | false => exact iteF (lq _ _ _ _ _ q1 s1 r1 (rel_bl.mpr rfl)), lx⟩⟩
theorem zor {a b : Expr} {rest : List Expr} {t u : WE} (h : ZE X W a t) (h2 : ZE X W (.BoolOp .Or (b :: rest) pos) u) : ZE X W (.BoolOp .Or (a :: b :: rest) pos) (wOrV t u) :=
  ⟨pe_imp (pe_or h.pe h2.pe) fun σ H Q ⟨S, F, ρ, h, E', Q', r, rl, q, lq, lx⟩ =>
    ⟨S, F, ρ, h, E', _, r, rl, q, fun x h1 S1 v H1 q1 s1 r1 x1 => by
      obtain ⟨c, rfl, q1⟩ := q1
      refine ⟨c, rel_bl.mp x1, ?_⟩
      cases c with
      | true => exact iteT (lq _ _ _ _ _ q1 s1 r1 (rel_bl.mpr rfl))
      | false => exact iteF ⟨S1, F, ρ, h1, E', Q', r1, rl.mono s1, q1, lq.mono s1, lx.mono s1⟩, lx⟩⟩
theorem znot {a : Expr} {t : WE} (h : ZE X W a t) : ZE X W (.UnaryOp .Not a pos) (wNotV t) :=
  ⟨pe_imp (pe_not h.pe) fun σ H Q ⟨S, F, ρ, h, E', Q', r, rl, q, lq, lx⟩ =>
    ⟨S, F, ρ, h, E', _, r, rl, q, fun x h1 S1 v H1 q1 s1 r1 x1 => by
      obtain ⟨c, rfl, q1⟩ := q1
      exact ⟨c, rel_bl.mp x1, lq _ _ _ _ _ q1 s1 r1 (rel_bl.mpr rfl)⟩, lx⟩⟩
def wIfE (c : WT) (ta tb : WE) : WE := fun ρ h E Q => c ρ h E fun b h1 => if b = true then ta ρ h1 E Q else tb ρ h1 E Q
theorem zifE {c a b : Expr} {tc : WT} {ta tb : WE} (hc : ZT X W c tc) (ha : ZE X W a ta) (hb : ZE X W b tb) : ZE X W (.IfExp c a b pos) (wIfE tc ta tb) :=
  ⟨pe_imp (pe_ifExp hc.pt ha.pe hb.pe) fun σ H Q ⟨S, F, ρ, h, E', Q', r, rl, q, lq, lx⟩ =>
    ⟨S, F, ρ, h, E', _, r, rl, q, fun c h1 S1 H1 q1 s1 r1 => by
      cases c with
      | true => exact iteT ⟨S1, F, ρ, h1, E', Q', r1, rl.mono s1, q1, lq.mono s1, lx.mono s1⟩
      | false => exact iteF ⟨S1, F, ρ, h1, E', Q', r1, rl.mono s1, q1, lq.mono s1, lx.mono s1⟩, lx⟩⟩
/-- a < b < c -/
def wChain (r r' : W2) (ta tb tc : WE) : WE := fun ρ h E Q => ta ρ h E fun x h1 => tb ρ h1 E fun y h2 => r x y h2 fun z h3 => ∃ k, z = .bl k ∧ if k = true then tc ρ h3 E fun u h4 => r' y u h4 Q else Q (.bl false) h3
theorem zchain {a b c : Expr} {ta tb tc : WE} {op op' : CmpOp} {r r' : R2} {s s' : W2} (o : OpR X (compareOp op) r) (o' : OpR X (compareOp op') r') (q : Snd2 X.K s r) (q' : Snd2 X.K s' r') (ha : ZE X W a ta) (hb : ZE X W b tb) (hc : ZE X W c tc)
    (hl : lastMarks [op, op'] [b, c] = false := by rfl) : ZE X W (.Compare a [op, op'] [b, c] pos) (wChain s s' ta tb tc) :=
  ⟨pe_imp (pe_chain o o' ha.pe hb.pe hc.pe hl) fun σ H Q ⟨S, F, ρ, h, E', Q', r0, rl, p, lq, lx⟩ =>
    ⟨S, F, ρ, h, E', _, r0, rl, p, fun x h1 S1 v H1 q1 s1 r1 x1 => ⟨S1, F, ρ, h1, E', _, r1, rl.mono s1, q1, fun y h2 S2 w H2 q2 s2 r2 x2 =>
      q S2 F H2 h2 x y v w _ _ r2 (Rel.mono s2 _ _ x1) x2 q2 fun z h3 S3 u H3 q3 s3 r3 x3 => by
        obtain ⟨k, rfl, q3⟩ := q3
        refine ⟨k, rel_bl.mp x3, ?_⟩
        cases k with
        | true => exact iteT ⟨S3, F, ρ, h3, E', _, r3, ((rl.mono s1).mono s2).mono s3, iteT' q3, fun z4 h4 S4 w4 H4 q4 s4 r4 x4 =>
            q' S4 F H4 h4 y z4 w w4 _ Q r4 (Rel.mono (s3.trans s4) _ _ x2) x4 q4 ((((lq.mono s1).mono s2).mono s3).mono s4), ((lx.mono s1).mono s2).mono s3⟩
        | false => exact iteF (lq _ _ _ _ _ (iteF' q3) ((s1.trans s2).trans s3) r3 (rel_bl.mpr rfl)), lx.mono s1⟩, lx⟩⟩
where
  iteT' {A B : Prop} (h : if true = true then A else B) : A := by rw [if_pos rfl] at h; exact h
  iteF' {A B : Prop} (h : if false = true then A else B) : B := by rw [if_neg Bool.false_ne_true] at h; exact h

/-! ### the operators -/
def wAdd : W2 := wI0 fun i j => .int (i + j)
def wSub : W2 := wI0 fun i j => .int (i - j)
def wMul : W2 := wI CMul fun i j => .int (i * j)
def wMulW : W2 := wI CMulW fun i j => .int (i * j)
def wMod : W2 := wI (fun _ j => 0 < j) fun i j => .int (i % j)
def wDivW : W2 := wI CDivW fun i j => .int (i / j)
def wPow : W2 := wI CPow fun i j => .int (i ^ j.toNat)
theorem s_add {K : Fr} : Snd2 K wAdd (rI0 fun i j => .int (i + j)) := snd_I0 fun _ _ _ => rel_int.mpr rfl
theorem s_sub {K : Fr} : Snd2 K wSub (rI0 fun i j => .int (i - j)) := snd_I0 fun _ _ _ => rel_int.mpr rfl
theorem s_mul {K : Fr} : Snd2 K wMul (rI CMul fun i j => .int (i * j)) := snd_I fun _ _ _ => rel_int.mpr rfl
theorem s_mulW {K : Fr} : Snd2 K wMulW (rI CMulW fun i j => .int (i * j)) := snd_I fun _ _ _ => rel_int.mpr rfl
theorem s_mod {K : Fr} : Snd2 K wMod (rI (fun _ j => 0 < j) fun i j => .int (i % j)) := snd_I fun _ _ _ => rel_int.mpr rfl
theorem s_divW {K : Fr} : Snd2 K wDivW (rI CDivW fun i j => .int (i / j)) := snd_I fun _ _ _ => rel_int.mpr rfl
theorem s_pow {K : Fr} : Snd2 K wPow (rI CPow fun i j => .int (i ^ j.toNat)) := snd_I fun _ _ _ => rel_int.mpr rfl
def wLt : W2 := wI0 fun i j => .bl (decide (i < j))
def wLe : W2 := wI0 fun i j => .bl (decide (i ≤ j))
def wGt : W2 := wI0 fun i j => .bl (decide (j < i))
def wGe : W2 := wI0 fun i j => .bl (decide (j ≤ i))
theorem s_lt {K : Fr} : Snd2 K wLt (rI0 fun i j => .bl (decide (i < j))) := snd_I0 fun _ _ _ => rel_bl.mpr rfl
theorem s_le {K : Fr} : Snd2 K wLe (rI0 fun i j => .bl (decide (i ≤ j))) := snd_I0 fun _ _ _ => rel_bl.mpr rfl
theorem s_gt {K : Fr} : Snd2 K wGt (rI0 fun i j => .bl (decide (j < i))) := snd_I0 fun _ _ _ => rel_bl.mpr rfl
theorem s_ge {K : Fr} : Snd2 K wGe (rI0 fun i j => .bl (decide (j ≤ i))) := snd_I0 fun _ _ _ => rel_bl.mpr rfl
/-- scalars: == -/
def scalar : Val → Val → Bool
  | .non, .non => true | .non, .int _ => true | .int _, .non => true | .non, .bl _ => true | .bl _, .non => true | .non, .str _ => true | .str _, .non => true
  | .int _, .int _ => true | .bl _, .bl _ => true | .str _, .str _ => true
  | .int _, .str _ => true | .str _, .int _ => true | .bl _, .str _ => true | .str _, .bl _ => true
  | _, _ => false
def seqv : Val → Val → Bool
  | .int i, .int j => decide (i = j)
  | .str x, .str y => decide (x = y)
  | .bl a, .bl b => decide (a = b)
  | .non, .non => true
  | _, _ => false
def wEqS : W2 := fun x y h Q => scalar x y = true ∧ Q (.bl (seqv x y)) h
def wNeS : W2 := fun x y h Q => scalar x y = true ∧ Q (.bl (!seqv x y)) h
theorem scalar_rel {K : Fr} {S : Hp} {x y : Val} {v w : V} (rx : Rel K S x v) (ry : Rel K S y w) (h : scalar x y = true) : scal v w = true ∧ decide (v = w) = seqv x y := by
  cases x <;> cases y <;> first | (simp [scalar] at h; done) | skip
  all_goals
    (first | rw [rel_non] at rx | rw [rel_int] at rx | rw [rel_str] at rx | rw [rel_bl] at rx)
    (first | rw [rel_non] at ry | rw [rel_int] at ry | rw [rel_str] at ry | rw [rel_bl] at ry)
    subst rx ry
    exact ⟨rfl, by simp [seqv]⟩
theorem s_eqS {K : Fr} : Snd2 K wEqS rEq := fun S F H h x y v w Q' Q r rx ry q lq => by
  obtain ⟨a, b⟩ := scalar_rel rx ry q.1
  exact ⟨a, by rw [b]; exact lq _ _ S _ _ q.2 (Sub.refl S) r (rel_bl.mpr rfl)⟩
theorem s_neS {K : Fr} : Snd2 K wNeS rNe := fun S F H h x y v w Q' Q r rx ry q lq => by
  obtain ⟨a, b⟩ := scalar_rel rx ry q.1
  exact ⟨a, by rw [b]; exact lq _ _ S _ _ q.2 (Sub.refl S) r (rel_bl.mpr rfl)⟩
/-! ### data of any depth -/
mutual
inductive Dv (h : Hh) : Val → PyData → Prop
  | non : Dv h .non .none
  | bl (b : Bool) : Dv h (.bl b) (.bool b)
  | int (i : Int) : Dv h (.int i) (.int i)
  | str (x : Str) : Dv h (.str x) (.str x)
  | lst {xs : List Val} {ds : List PyData} : Dvs h xs ds → Dv h (.lst xs) (.list ds)
  | scr {xs : List Val} {ds : List PyData} : Dvs h xs ds → Dv h (.scr xs) (.list ds)
  | tup {xs : List Val} {ds : List PyData} : Dvs h xs ds → Dv h (.tup xs) (.tuple ds)
  | ref {a : Addr} {xs : List Val} {ds : List PyData} : h a = some (.lst xs) → Dvs h xs ds → Dv h (.ref a) (.list ds)
inductive Dvs (h : Hh) : List Val → List PyData → Prop
  | nil : Dvs h [] []
  | cons {v : Val} {vs : List Val} {d : PyData} {ds : List PyData} : Dv h v d → Dvs h vs ds → Dvs h (v :: vs) (d :: ds)
end
mutual
theorem Dv.dp {K : Fr} {S F H : Hp} {h : Hh} (r : R K S F H h) : ∀ (d : PyData) (x : Val) (v : V), Dv h x d → Rel K S x v → Dp K H v d
  | .none, _, _, q, x => by cases q; rw [rel_non] at x; subst x; exact .non
  | .bool b, _, _, q, x => by cases q; rw [rel_bl] at x; subst x; exact .bl b
  | .int i, _, _, q, x => by cases q; rw [rel_int] at x; subst x; exact .int i
  | .str i, _, _, q, x => by cases q; rw [rel_str] at x; subst x; exact .str i
  | .list ds, _, _, q, x => by
    cases q with
    | lst q =>
      rw [rel_lst] at x
      obtain ⟨a, ws, rfl, h1, h2⟩ := x
      exact .lst (.of (r.sub _ _ h1)) (Dvs.dp r ds _ _ q h2)
    | scr q =>
      rw [rel_scr] at x
      obtain ⟨a, ws, rfl, h1, h2⟩ := x
      exact .lst (r.sub.seqL h1) (Dvs.dp r ds _ _ q h2)
    | ref e q =>
      rw [rel_ref] at x
      subst x
      obtain ⟨_, u, h1, ws, rfl, h2⟩ := r.own _ _ e
      exact .lst (.of h1) (Dvs.dp r ds _ _ q h2)
  | .tuple ds, _, _, q, x => by
    cases q with
    | tup q =>
      rw [rel_tup] at x
      obtain ⟨a, ws, rfl, h1, h2⟩ := x
      exact .tup (.of (r.sub _ _ h1)) (Dvs.dp r ds _ _ q h2)
  | .dict _, _, _, q, _ => by cases q
theorem Dvs.dp {K : Fr} {S F H : Hp} {h : Hh} (r : R K S F H h) : ∀ (ds : List PyData) (xs : List Val) (vs : List V), Dvs h xs ds → Rels K S xs vs → DpAll K H vs ds
  | [], _, _, q, x => by cases q; rw [rels_nil] at x; subst x; exact .nil
  | d :: ds, _, _, q, x => by
    cases q with
    | cons q1 q2 =>
      rw [rels_cons] at x
      obtain ⟨w, r', rfl, h1, h2⟩ := x
      exact .cons (Dv.dp r d _ _ q1 h1) (Dvs.dp r ds _ _ q2 h2)
end
def wEqD : W2 := fun x y h Q => ∃ d e, Dv h x d ∧ Dv h y e ∧ SeqAt.shaped d = true ∧ SeqAt.shaped e = true ∧ Q (.bl (PyData.eqv d e)) h
def wNeD : W2 := fun x y h Q => ∃ d e, Dv h x d ∧ Dv h y e ∧ SeqAt.shaped d = true ∧ SeqAt.shaped e = true ∧ Q (.bl (!PyData.eqv d e)) h
theorem s_eqD {K : Fr} : Snd2 K wEqD (rEqD K) := fun S F H h x y v w Q' Q r rx ry q lq => by
  obtain ⟨d, e, h1, h2, h3, h4, q⟩ := q
  exact ⟨d, e, h1.dp r _ _ _ rx, h2.dp r _ _ _ ry, h3, h4, lq _ _ S _ _ q (Sub.refl S) r (rel_bl.mpr rfl)⟩
theorem s_neD {K : Fr} : Snd2 K wNeD (rNeD K) := fun S F H h x y v w Q' Q r rx ry q lq => by
  obtain ⟨d, e, h1, h2, h3, h4, q⟩ := q
  exact ⟨d, e, h1.dp r _ _ _ rx, h2.dp r _ _ _ ry, h3, h4, lq _ _ S _ _ q (Sub.refl S) r (rel_bl.mpr rfl)⟩
/-- x in xs, xs a list -/
def wInD : W2 := fun x y h Q => ∃ d ds, Dv h x d ∧ Dv h y (.list ds) ∧ SeqAt.shaped d = true ∧ SeqAt.shaped (.list ds) = true ∧ Q (.bl (ds.any fun z => PyData.eqv z d)) h
def wNotInD : W2 := fun x y h Q => ∃ d ds, Dv h x d ∧ Dv h y (.list ds) ∧ SeqAt.shaped d = true ∧ SeqAt.shaped (.list ds) = true ∧ Q (.bl (!ds.any fun z => PyData.eqv z d)) h
theorem s_inD {K : Fr} : Snd2 K wInD (rInD K) := fun S F H h x y v w Q' Q r rx ry q lq => by
  obtain ⟨d, e, h1, h2, h3, h4, q⟩ := q
  exact ⟨d, e, h1.dp r _ _ _ rx, h2.dp r _ _ _ ry, h3, h4, lq _ _ S _ _ q (Sub.refl S) r (rel_bl.mpr rfl)⟩
theorem s_notInD {K : Fr} : Snd2 K wNotInD (rNotInD K) := fun S F H h x y v w Q' Q r rx ry q lq => by
  obtain ⟨d, e, h1, h2, h3, h4, q⟩ := q
  exact ⟨d, e, h1.dp r _ _ _ rx, h2.dp r _ _ _ ry, h3, h4, lq _ _ S _ _ q (Sub.refl S) r (rel_bl.mpr rfl)⟩
/-- what a list or a tuple holds -/
inductive Seqq (h : Hh) : Val → List Val → Prop
  | lst (xs) : Seqq h (.lst xs) xs
  | scr (xs) : Seqq h (.scr xs) xs
  | ref {a xs} : h a = some (.lst xs) → Seqq h (.ref a) xs
theorem Seqq.l {K : Fr} {S F H : Hp} {h : Hh} {x : Val} {xs : List Val} {v : V} (q : Seqq h x xs) (r : R K S F H h) (x : Rel K S x v) : ∃ a ws, v = .ref a ∧ SqL K H a ws ∧ Rels K S xs ws := by
  cases q with
  | lst => rw [rel_lst] at x; obtain ⟨a, ws, e, h1, h2⟩ := x; exact ⟨a, ws, e, .of (r.sub _ _ h1), h2⟩
  | scr => rw [rel_scr] at x; obtain ⟨a, ws, e, h1, h2⟩ := x; exact ⟨a, ws, e, r.sub.seqL h1, h2⟩
  | ref e =>
    rw [rel_ref] at x
    obtain ⟨_, u, h1, ws, rfl, h2⟩ := r.own _ _ e
    exact ⟨_, ws, x, .of h1, h2⟩
theorem rel_tupH {K : Fr} {S F H : Hp} {h : Hh} {xs : List Val} {v : V} (r : R K S F H h) (x : Rel K S (.tup xs) v) : ∃ a ws, v = .ref a ∧ SqT K H a ws ∧ Rels K S xs ws := by
  rw [rel_tup] at x; obtain ⟨a, ws, e, h1, h2⟩ := x; exact ⟨a, ws, e, .of (r.sub _ _ h1), h2⟩
/-- x in t (texts, ints, bools, None in a list or tuple of such) -/
def flat : Val → Bool
  | .non => true | .bl _ => true | .int _ => true | .str _ => true | _ => false
theorem ixN_len {n m : Nat} (e : n = m) (i : Int) : L2.ixN n i = L2.ixN m i := by rw [e]
theorem rels_atI {K : Fr} {S : Hp} {xs : List Val} {ws : List V} {i : Int} {v : Val} (x : Rels K S xs ws) (e : L2.atI xs i = some v) : ∃ w, L2.atI ws i = some w ∧ Rel K S v w := by
  unfold L2.atI at e ⊢
  rw [← x.length]
  cases q : L2.ixN xs.length i with
  | none => rw [q] at e; cases e
  | some j =>
    rw [q] at e
    exact x.get (show xs[j]? = some v from e)
/-! ### subscripts -/
def wIxL : W2 := fun x y h Q => ∃ xs i v, Seqq h x xs ∧ y = .int i ∧ L2.atI xs i = some v ∧ Q v h
def wIxT : W2 := fun x y h Q => ∃ xs i v, x = .tup xs ∧ y = .int i ∧ L2.atI xs i = some v ∧ Q v h
def wIxS : W2 := fun x y h Q => ∃ z i c, x = .str z ∧ y = .int i ∧ z.length ≤ sizeLine ∧ L2.atI z.cps.toList i = some c ∧ Q (.str ⟨#[c]⟩) h
theorem s_ixL {K : Fr} : Snd2 K wIxL (rIxL K) := fun S F H h x y v w Q' Q r rx ry q lq => by
  obtain ⟨xs, i, v, h1, rfl, h3, q⟩ := q
  obtain ⟨a, ws, e, g1, g2⟩ := h1.l r rx
  obtain ⟨u, g3, g4⟩ := rels_atI g2 h3
  exact ⟨a, ws, i, u, e, rel_int.mp ry, g1, g3, lq _ _ S _ _ q (Sub.refl S) r g4⟩
theorem s_ixT {K : Fr} : Snd2 K wIxT (rIxT K) := fun S F H h x y v w Q' Q r rx ry q lq => by
  obtain ⟨xs, i, v, rfl, rfl, h3, q⟩ := q
  obtain ⟨a, ws, e, g1, g2⟩ := rel_tupH r rx
  obtain ⟨u, g3, g4⟩ := rels_atI g2 h3
  exact ⟨a, ws, i, u, e, rel_int.mp ry, g1, g3, lq _ _ S _ _ q (Sub.refl S) r g4⟩
theorem s_ixS {K : Fr} : Snd2 K wIxS rIxS := fun S F H h x y v w Q' Q r rx ry q lq => by
  obtain ⟨z, i, c, rfl, rfl, h2, h3, q⟩ := q
  exact ⟨z, i, c, rel_str.mp rx, rel_int.mp ry, h2, h3, lq _ _ S _ _ q (Sub.refl S) r (rel_str.mpr rfl)⟩
theorem zix {a b : Expr} {ta tb : WE} {r : R2} {r' : W2} (o : IxR X r) (s : Snd2 X.K r' r) (ha : ZE X W a ta) (hb : ZE X W b tb) (hi : PlainIx b) : ZE X W (.Subscript a b pos) (wOp r' ta tb) :=
  ⟨pe_imp (pe_ix o ha.pe hb.pe hi) fun σ H Q ⟨S, F, ρ, h, E', Q', r, rl, q, lq, lx⟩ =>
    ⟨S, F, ρ, h, E', _, r, rl, q, fun x h1 S1 v H1 q1 s1 r1 x1 => ⟨S1, F, ρ, h1, E', _, r1, rl.mono s1, q1, fun y h2 S2 w H2 q2 s2 r2 x2 =>
      s S2 F H2 h2 x y v w _ Q r2 (Rel.mono s2 _ _ x1) x2 q2 ((lq.mono s1).mono s2), lx.mono s1⟩, lx⟩⟩
/-! ### None -/
def isNon : Val → Bool
  | .non => true
  | _ => false
def wIsN (ta : WE) : WE := fun ρ h E Q => ta ρ h E fun x h1 => Q (.bl (isNon x)) h1
def wNotN (ta : WE) : WE := fun ρ h E Q => ta ρ h E fun x h1 => Q (.bl (!isNon x)) h1
theorem non_dec {K : Fr} {S : Hp} {x : Val} {v : V} (h : Rel K S x v) : decide (v = .non) = isNon x := by
  cases x with
  | non => rw [rel_non] at h; subst h; rfl
  | bl _ => rw [rel_bl] at h; subst h; rfl
  | int _ => rw [rel_int] at h; subst h; rfl
  | str _ => rw [rel_str] at h; subst h; rfl
  | ref _ => rw [rel_ref] at h; subst h; rfl
  | ty _ => rw [rel_ty] at h; subst h; rfl
  | exc _ _ _ => rw [rel_exc] at h; obtain ⟨rfl, _⟩ := h; rfl
  | tup _ => rw [rel_tup] at h; obtain ⟨_, _, rfl, _⟩ := h; rfl
  | lst _ => rw [rel_lst] at h; obtain ⟨_, _, rfl, _⟩ := h; rfl
  | scr _ => rw [rel_scr] at h; obtain ⟨_, _, rfl, _⟩ := h; rfl
  | obj _ _ => rw [rel_obj] at h; obtain ⟨_, _, _, rfl, _⟩ := h; rfl
theorem zisN {a : Expr} {ta : WE} {j pos'} (ha : ZE X W a ta) : ZE X W (.Compare a [.Is] [.Constant .none j pos'] pos) (wIsN ta) :=
  ⟨pe_imp (pe_cmp (pc_isN ha.pe) rfl) fun σ H Q ⟨S, F, ρ, h, E', Q', r, rl, q, lq, lx⟩ =>
    ⟨S, F, ρ, h, E', _, r, rl, q, fun x h1 S1 v H1 q1 s1 r1 x1 => by show Q (V.bl (decide (v = V.non))) H1; rw [non_dec x1]; exact lq _ _ _ _ _ q1 s1 r1 (rel_bl.mpr rfl), lx⟩⟩
theorem znotN {a : Expr} {ta : WE} {j pos'} (ha : ZE X W a ta) : ZE X W (.Compare a [.IsNot] [.Constant .none j pos'] pos) (wNotN ta) :=
  ⟨pe_imp (pe_cmp (pc_notN ha.pe) rfl) fun σ H Q ⟨S, F, ρ, h, E', Q', r, rl, q, lq, lx⟩ =>
    ⟨S, F, ρ, h, E', _, r, rl, q, fun x h1 S1 v H1 q1 s1 r1 x1 => by
      show Q (V.bl (!decide (v = V.non))) H1
      rw [non_dec x1]
      exact lq _ _ _ _ _ q1 s1 r1 (rel_bl.mpr rfl), lx⟩⟩
theorem ztisN {a : Expr} {ta : WE} {j pos'} (ha : ZE X W a ta) (h1 : behindInMarks .Is (.Constant .none j pos') = false := by rfl) : ZT X W (.Compare a [.Is] [.Constant .none j pos'] pos) (wTv (wIsN ta)) :=
  ⟨pt_imp (pt_cmpR op_isN ha.pe pe_non h1) fun σ H Q ⟨S, F, ρ, h, E', Q', r, rl, q, lq, lx⟩ =>
    ⟨S, F, ρ, h, E', _, r, rl, q, fun x h1 S1 v H1 q1 s1 r1 x1 => ⟨rfl, decide (v = V.non), rfl, by
      obtain ⟨c, e, q2⟩ := q1
      rw [non_dec x1]
      cases e
      exact lq _ _ _ _ q2 s1 r1⟩, lx⟩⟩
theorem ztnotN {a : Expr} {ta : WE} {j pos'} (ha : ZE X W a ta) (h1 : behindInMarks .IsNot (.Constant .none j pos') = false := by rfl) : ZT X W (.Compare a [.IsNot] [.Constant .none j pos'] pos) (wTv (wNotN ta)) :=
  ⟨pt_imp (pt_cmpR op_notN ha.pe pe_non h1) fun σ H Q ⟨S, F, ρ, h, E', Q', r, rl, q, lq, lx⟩ =>
    ⟨S, F, ρ, h, E', _, r, rl, q, fun x h1 S1 v H1 q1 s1 r1 x1 => ⟨rfl, !decide (v = V.non), rfl, by
      obtain ⟨c, e, q2⟩ := q1
      rw [non_dec x1]
      cases e
      exact lq _ _ _ _ q2 s1 r1⟩, lx⟩⟩
/-! ### slices -/
abbrev WO := Ev → Hh → XQ → (Option Int → Hh → Prop) → Prop
structure ZO (X : Cx) (W : WX) (e : Option Expr) (t : WO) : Prop where
  po : PO X e (fun σ H Q => ∃ S F ρ h E' Q', R X.K S F H h ∧ Rls X.K S ρ σ ∧ t ρ h E' Q' ∧ (∀ v h' S' H', Q' v h' → Sub S S' → R X.K S' F H' h' → Q v H') ∧ LX X.K S F E' W σ)
theorem po_imp {X : Cx} {e : Option Expr} {t t' : TO} (h : PO X e t) (i : ∀ σ H Q, t' σ H Q → t σ H Q) : PO X e t' := ⟨fun pins s σ H Q I q => h.run pins s σ H Q I (i _ _ _ q)⟩
def wNoPart : WO := fun _ h _ Q => Q none h
def wPart (t : WE) : WO := fun ρ h E Q => t ρ h E fun x h1 => ∃ i, x = .int i ∧ Q (some i) h1
theorem zo_none : ZO X W none wNoPart := ⟨po_imp po_none fun σ H Q ⟨S, F, ρ, h, E', Q', r, rl, q, lq, lx⟩ => lq _ _ _ _ q (Sub.refl S) r⟩
theorem zo_some {e : Expr} {te : WE} (h : ZE X W e te) : ZO X W (some e) (wPart te) := ⟨po_imp (po_some h.pe) fun σ H Q ⟨S, F, ρ, h, E', Q', r, rl, q, lq, lx⟩ =>
  ⟨S, F, ρ, h, E', _, r, rl, q, fun x h1 S1 v H1 q1 s1 r1 x1 => by
    obtain ⟨i, rfl, q1⟩ := q1
    exact ⟨i, rel_int.mp x1, lq _ _ _ _ q1 s1 r1⟩, lx⟩⟩
abbrev W3 := Val → Option Int → Option Int → Hh → KQ → Prop
def Snd3 (K : Fr) (r' : W3) (r : V → Option Int → Option Int → Hp → VK → Prop) : Prop := ∀ S F H h x v lo hi Q' Q, R K S F H h → Rel K S x v → r' x lo hi h Q' → LQ K S F Q' Q → r v lo hi H Q
def wSl (r : W3) (te : WE) (tl th : WO) : WE := fun ρ h E Q => te ρ h E fun x h1 => tl ρ h1 E fun l h2 => th ρ h2 E fun u h3 => r x l u h3 Q
theorem zslice {e : Expr} {te : WE} {lo hi : Option Expr} {tl th : WO} {p2 : Pos} {r : V → Option Int → Option Int → Hp → VK → Prop} {r' : W3} (o : SlR X r) (s : Snd3 X.K r' r) (he : ZE X W e te) (hl : ZO X W lo tl) (hh : ZO X W hi th) :
    ZE X W (.Subscript e (.Slice lo hi none p2) pos) (wSl r' te tl th) :=
  ⟨pe_imp (pe_slice o he.pe hl.po hh.po) fun σ H Q ⟨S, F, ρ, h, E', Q', r, rl, q, lq, lx⟩ =>
    ⟨S, F, ρ, h, E', _, r, rl, q, fun x h1 S1 v H1 q1 s1 r1 x1 => ⟨S1, F, ρ, h1, E', _, r1, rl.mono s1, q1, fun l h2 S2 H2 q2 s2 r2 =>
      ⟨S2, F, ρ, h2, E', _, r2, (rl.mono s1).mono s2, q2, fun u h3 S3 H3 q3 s3 r3 => s S3 F H3 h3 x v l u _ Q r3 (Rel.mono (s2.trans s3) _ _ x1) q3 (((lq.mono s1).mono s2).mono s3), (lx.mono s1).mono s2⟩, lx.mono s1⟩, lx⟩⟩
def cut {α : Type} (xs : List α) (lo hi : Option Int) : List α := (xs.drop (HT.sIx xs.length 0 lo)).take (HT.sIx xs.length xs.length hi - HT.sIx xs.length 0 lo)
def wSlL : W3 := fun x lo hi h Q => ∃ xs, Seqq h x xs ∧ NewL (cut xs lo hi) h Q
theorem s_slL {K : Fr} : Snd3 K wSlL (rSlL K) := fun S F H h x v lo hi Q' Q r rx q lq => by
  obtain ⟨xs, h1, q⟩ := q
  obtain ⟨a, ws, e, g1, g2⟩ := h1.l r rx
  refine ⟨a, ws, e, g1, fun p n => newl r ?_ q lq n⟩
  have e2 : cutV ws lo hi = cut ws lo hi := rfl
  rw [e2]
  unfold cut
  rw [g2.length]
  exact (g2.drop _).take _
end
/-! Z4 -/
/-! fields, statements, targets, loops, comprehensions -/
section
variable {X : Cx} {W : WX} {pos : Pos}
/-! ### fields -/
inductive Ins (h : Hh) : Val → Addr → List (Str × Val) → Prop
  | obj (C fs) : Ins h (.obj C fs) C fs
  | ref {a C fs} : h a = some (.ins C fs) → Ins h (.ref a) C fs
theorem Ins.l {K : Fr} {S F H : Hp} {h : Hh} {x : Val} {C : Addr} {fs : List (Str × Val)} {v : V} (q : Ins h x C fs) (r : R K S F H h) (x : Rel K S x v) : ∃ a dx gs, v = .ref a ∧ H a = some (.ins C dx gs) ∧ RelF K S fs gs := by
  cases q with
  | obj => rw [rel_obj] at x; obtain ⟨a, dx, gs, e, h1, h2⟩ := x; exact ⟨a, dx, gs, e, r.sub _ _ h1, h2⟩
  | ref e =>
    rw [rel_ref] at x
    obtain ⟨_, u, h1, dx, gs, rfl, h2⟩ := r.own _ _ e
    exact ⟨_, dx, gs, x, h1, h2⟩
def wFld (C : Addr) (ta : WE) (f : Str) : WE := fun ρ h E Q => ta ρ h E fun x h1 => ∃ fs v, Ins h1 x C fs ∧ fs.lookup f = some v ∧ Q v h1
theorem zfld {e : Expr} {f : Str} {ta : WE} {C : Addr} (c : Cls X.K C) (n : NoAttr X.K C f) (he : ZE X W e ta) (hb : attributeBase e f X.env (eval e X.env) = eval e X.env := by rfl) : ZE X W (.Attribute e f pos) (wFld C ta f) :=
  ⟨pe_imp (pe_fld he.pe hb) fun σ H Q ⟨S, F, ρ, h, E', Q', r, rl, q, lq, lx⟩ =>
    ⟨S, F, ρ, h, E', _, r, rl, q, fun x h1 S1 v H1 q1 s1 r1 x1 => by
      obtain ⟨fs, y, q2, q3, q4⟩ := q1
      obtain ⟨a, dx, gs, e1, e2, e3⟩ := q2.l r1 x1
      obtain ⟨u, e4, e5⟩ := e3.lookup q3
      exact ⟨a, C, dx, gs, u, e1, e2, c, n, e4, lq _ _ _ _ _ q4 s1 r1 e5⟩, lx⟩⟩
theorem relf_put {K : Fr} {S : Hp} {f : Str} {v : Val} {w : V} (x : Rel K S v w) : ∀ {fs : List (Str × Val)} {gs : List (Str × V)}, RelF K S fs gs → RelF K S (putv f v fs) (putF f w gs)
  | [], _, h => by rw [relf_nil] at h; subst h; exact relf_cons.mpr ⟨w, [], rfl, x, relf_nil.mpr rfl⟩
  | (n, y) :: fs, _, h => by
    rw [relf_cons] at h; obtain ⟨u, r, rfl, h1, h2⟩ := h
    unfold putv putF
    by_cases e : n = f
    · rw [if_pos e, if_pos e]; exact relf_cons.mpr ⟨w, r, rfl, x, h2⟩
    · rw [if_neg e, if_neg e]; exact relf_cons.mpr ⟨u, _, rfl, h1, relf_put x h2⟩
/-! ### statements -/
def atx (xe : XS) (ρ : Ev) : XQ := fun C v h => xe C v ρ h
def wNext : WS := fun nx _ _ _ _ ρ h => nx ρ h
def wSeq (t u : WS) : WS := fun nx rt bk ct xe ρ h => t (u nx rt bk ct xe) rt bk ct xe ρ h
theorem zb_nil : ZB X W [] wNext := ⟨pss_imp pss_nil fun D σ H ⟨S, F, ρ, h, nx, rt, bk, ct, xe, r, rl, q, ln, lr, lb, lc, lx⟩ => ln _ _ _ _ _ q (Sub.refl S) r rl⟩
theorem zb_cons {st : Stmt} {rest : List Stmt} {t u : WS} (h1 : ZS X W st t) (h2 : ZB X W rest u) : ZB X W (st :: rest) (wSeq t u) :=
  ⟨pss_imp (pss_cons h1.ps h2.pss) fun D σ H ⟨S, F, ρ, h, nx, rt, bk, ct, xe, r, rl, q, ln, lr, lb, lc, lx⟩ =>
    ⟨S, F, ρ, h, _, rt, bk, ct, xe, r, rl, q, fun ρ1 h1 S1 σ1 H1 q1 s1 r1 rl1 => ⟨S1, F, ρ1, h1, nx, rt, bk, ct, xe, r1, rl1, q1, ln.mono s1, lr.mono s1, lb.mono s1, lc.mono s1, lx.mono s1⟩, lr, lb, lc, lx⟩⟩
theorem zb_one {st : Stmt} {t : WS} (h1 : ZS X W st t) : ZB X W [st] t := ⟨pss_one h1.ps⟩
theorem zs_pass : ZS X W (.Pass pos) wNext := ⟨ps_imp ps_pass fun D σ H ⟨S, F, ρ, h, nx, rt, bk, ct, xe, r, rl, q, ln, lr, lb, lc, lx⟩ => ln _ _ _ _ _ q (Sub.refl S) r rl⟩
def wBreak : WS := fun _ _ bk _ _ ρ h => bk ρ h
def wCont : WS := fun _ _ _ ct _ ρ h => ct ρ h
theorem zs_break : ZS X W (.Break pos) wBreak := ⟨ps_imp ps_break fun D σ H ⟨S, F, ρ, h, nx, rt, bk, ct, xe, r, rl, q, ln, lr, lb, lc, lx⟩ => lb _ _ _ _ _ q (Sub.refl S) r rl⟩
theorem zs_cont : ZS X W (.Continue pos) wCont := ⟨ps_imp ps_continue fun D σ H ⟨S, F, ρ, h, nx, rt, bk, ct, xe, r, rl, q, ln, lr, lb, lc, lx⟩ => lc _ _ _ _ _ q (Sub.refl S) r rl⟩
/-- what is owned may be let go or be fixed for ever, at any time -/
def Shf (K : Fr) (ρ : Ev) (h : Hh) (ρ2 : Ev) (h2 : Hh) : Prop := ∀ S F H σ, R K S F H h → Rls K S ρ σ → ∃ S2, Sub S S2 ∧ R K S2 F H h2 ∧ Rls K S2 ρ2 σ
def wGhost (K : Fr) (t : WS) : WS := fun nx rt bk ct xe ρ h => ∃ ρ2 h2, Shf K ρ h ρ2 h2 ∧ t nx rt bk ct xe ρ2 h2
theorem zb_ghost {sts : List Stmt} {t : WS} (h1 : ZB X W sts t) : ZB X W sts (wGhost X.K t) :=
  ⟨pss_imp h1.pss fun D σ H ⟨S, F, ρ, h, nx, rt, bk, ct, xe, r, rl, ⟨ρ2, h2, sh, q⟩, ln, lr, lb, lc, lx⟩ => by
    obtain ⟨S2, s2, r2, rl2⟩ := sh S F H σ r rl
    exact ⟨S2, F, ρ2, h2, nx, rt, bk, ct, xe, r2, rl2, q, ln.mono s2, lr.mono s2, lb.mono s2, lc.mono s2, lx.mono s2⟩⟩
def wExpr (te : WE) : WS := fun nx _ _ _ xe ρ h => te ρ h (atx xe ρ) fun _ h1 => nx ρ h1
theorem zs_expr {e : Expr} {te : WE} (he : ZE X W e te) (hs : swapsWith e none pos.line X.env = pure false := by rfl) : ZS X W (.Expr e pos) (wExpr te) :=
  ⟨ps_imp (ps_expr he.pe hs) fun D σ H ⟨S, F, ρ, h, nx, rt, bk, ct, xe, r, rl, q, ln, lr, lb, lc, lx⟩ =>
    ⟨S, F, ρ, h, _, _, r, rl, q, fun x h1 S1 v H1 q1 s1 r1 x1 => ln _ _ _ _ _ q1 s1 r1 (rl.mono s1), lx.at rl⟩⟩
def wRet (te : WE) : WS := fun _ rt _ _ xe ρ h => te ρ h (atx xe ρ) rt
theorem zs_ret {e : Expr} {te : WE} (he : ZE X W e te) : ZS X W (.Return (some e) pos) (wRet te) :=
  ⟨ps_imp (ps_ret he.pe) fun D σ H ⟨S, F, ρ, h, nx, rt, bk, ct, xe, r, rl, q, ln, lr, lb, lc, lx⟩ => ⟨S, F, ρ, h, _, _, r, rl, q, lr, lx.at rl⟩⟩
def wRetN : WS := fun _ rt _ _ _ _ h => rt .non h
theorem zs_retN : ZS X W (.Return none pos) wRetN :=
  ⟨ps_imp ps_retN fun D σ H ⟨S, F, ρ, h, nx, rt, bk, ct, xe, r, rl, q, ln, lr, lb, lc, lx⟩ => lr _ _ _ _ _ q (Sub.refl S) r (rel_non.mpr rfl)⟩
def wIf (c : WT) (t u : WS) : WS := fun nx rt bk ct xe ρ h => c ρ h (atx xe ρ) fun b h1 => if b = true then t nx rt bk ct xe ρ h1 else u nx rt bk ct xe ρ h1
theorem zs_if {c : Expr} {a b : List Stmt} {tc : WT} {t u : WS} (hc : ZT X W c tc) (ha : ZB X W a t) (hb : ZB X W b u) : ZS X W (.If c a b pos) (wIf tc t u) :=
  ⟨ps_imp (ps_if hc.pt ha.pss hb.pss) fun D σ H ⟨S, F, ρ, h, nx, rt, bk, ct, xe, r, rl, q, ln, lr, lb, lc, lx⟩ =>
    ⟨S, F, ρ, h, _, _, r, rl, q, fun b h1 S1 H1 q1 s1 r1 => by
      cases b with
      | true => exact iteT ⟨S1, F, ρ, h1, nx, rt, bk, ct, xe, r1, rl.mono s1, q1, ln.mono s1, lr.mono s1, lb.mono s1, lc.mono s1, lx.mono s1⟩
      | false => exact iteF ⟨S1, F, ρ, h1, nx, rt, bk, ct, xe, r1, rl.mono s1, q1, ln.mono s1, lr.mono s1, lb.mono s1, lc.mono s1, lx.mono s1⟩, lx.at rl⟩⟩
def wFldS (C : Addr) (ta tv : WE) (f : Str) : WS := fun nx _ _ _ xe ρ h => tv ρ h (atx xe ρ) fun y h1 => ta ρ h1 (atx xe ρ) fun x h2 => ∃ a fs, x = .ref a ∧ h2 a = some (.ins C fs) ∧ fs.length < 1000 ∧ nx ρ (hup h2 a (.ins C (putv f y fs)))
theorem zs_fld {o value : Expr} {f : Str} {ta tv : WE} {C : Addr} {pos' : Pos} (c : Cls X.K C) (n : NoAttr X.K C f) (ho : ZE X W o ta) (hv : ZE X W value tv) (hs : swapsWith value (some (.Attribute o f pos')) pos.line X.env = pure false := by rfl) :
    ZS X W (.Assign [.Attribute o f pos'] value pos) (wFldS C ta tv f) :=
  ⟨ps_imp (ps_fld ho.pe hv.pe hs) fun D σ H ⟨S, F, ρ, h, nx, rt, bk, ct, xe, r, rl, q, ln, lr, lb, lc, lx⟩ =>
    ⟨S, F, ρ, h, _, _, r, rl, q, fun y h1 S1 w H1 q1 s1 r1 x1 => ⟨S1, F, ρ, h1, _, _, r1, rl.mono s1, q1, fun x h2 S2 v H2 q2 s2 r2 x2 => by
      obtain ⟨a, fs, rfl, e2, l, q3⟩ := q2
      obtain ⟨b, u, e3, dx, gs, rfl, e4⟩ := r2.own _ _ e2
      rw [rel_ref] at x2
      refine ⟨a, C, dx, gs, x2, e3, c, n, by rw [← e4.length]; exact l, ?_⟩
      exact ln _ _ S2 _ _ q3 (s1.trans s2) (r2.store e2 ⟨dx, _, rfl, relf_put (Rel.mono s2 _ _ x1) e4⟩) ((rl.mono s1).mono s2), (lx.mono s1).at (rl.mono s1)⟩, lx.at rl⟩⟩
/-! ### targets -/
abbrev WG := Val → Ev → Hh → EH → Prop
abbrev WGs := List Val → Ev → Hh → EH → Prop
def lG (K : Fr) (t : WG) : L2.TG := fun w σ H Q => ∃ S F v ρ h Q', R K S F H h ∧ Rls K S ρ σ ∧ Rel K S v w ∧ t v ρ h Q' ∧ LN K S F Q' Q
def lGs (K : Fr) (t : WGs) : L2.TGs := fun w σ H Q => ∃ S F v ρ h Q', R K S F H h ∧ Rls K S ρ σ ∧ Rels K S v w ∧ t v ρ h Q' ∧ LN K S F Q' Q
structure ZG (X : Cx) (e : Expr) (t : WG) : Prop where
  pg : PG X e (lG X.K t)
structure ZGs (X : Cx) (es : List Expr) (t : WGs) : Prop where
  pgs : PGs X es (lGs X.K t)
theorem pg_imp {X : Cx} {e : Expr} {t t' : L2.TG} (h : PG X e t) (i : ∀ w σ H Q, t' w σ H Q → t w σ H Q) : PG X e t' := by
  obtain ⟨run⟩ := h
  exact ⟨by first | exact fun v pins s σ H w Q a b c => run v pins s σ H w Q a b (i _ _ _ _ c) | exact fun pins s σ H w Q u a b c => run pins s σ H w Q u a b (i _ _ _ _ c) | exact fun pins s σ H v u Q a b c => run pins s σ H v u Q a b (i _ _ _ _ c)⟩
theorem pgs_imp {X : Cx} {e : List Expr} {t t' : L2.TGs} (h : PGs X e t) (i : ∀ w σ H Q, t' w σ H Q → t w σ H Q) : PGs X e t' := by
  obtain ⟨run⟩ := h
  exact ⟨by first | exact fun v pins s σ H w Q a b c => run v pins s σ H w Q a b (i _ _ _ _ c) | exact fun pins s σ H w Q u a b c => run pins s σ H w Q u a b (i _ _ _ _ c)⟩
def wgName (i : Nat) : WG := fun v ρ h Q => Q (ρ.set i (some v)) h
def wgNil : WGs := fun vs ρ h Q => vs = [] ∧ Q ρ h
def wgCons (t : WG) (u : WGs) : WGs := fun vs ρ h Q => ∃ v r, vs = v :: r ∧ t v ρ h fun ρ1 h1 => u r ρ1 h1 Q
def wgTup (n : Nat) (t : WGs) : WG := fun v ρ h Q => ∃ xs, v = .tup xs ∧ xs.length = n ∧ t xs ρ h Q
theorem zg_name {i : Nat} {x : Str} (hN : X.N.Nodup) (hi : X.N[i]? = some x) (hx : Loc X.env.scope x) (hf : X.fn x = true ∨ X.env.scope.names.lookup x = some .local := by first | exact .inl rfl | exact .inr rfl | assumption) : ZG X (.Name x pos) (wgName i) :=
  ⟨pg_imp (pg_name hN hi hx hf) fun w σ H Q ⟨S, F, v, ρ, h, Q', r, rl, x, q, ln⟩ => ln _ _ _ _ _ q (Sub.refl S) r (rl.set i x)⟩
theorem zgs_nil : ZGs X [] wgNil := ⟨pgs_imp pgs_nil fun w σ H Q ⟨S, F, v, ρ, h, Q', r, rl, x, ⟨e, q⟩, ln⟩ => by
  subst e; rw [rels_nil] at x; exact ⟨x, ln _ _ _ _ _ q (Sub.refl S) r rl⟩⟩
theorem zgs_cons {e : Expr} {es : List Expr} {t : WG} {u : WGs} (h1 : ZG X e t) (h2 : ZGs X es u)
    (ha : (assignEach (e :: es) X.env).map (·.2) = assign e X.env :: (assignEach es X.env).map (·.2) := by rfl) : ZGs X (e :: es) (wgCons t u) :=
  ⟨pgs_imp (pgs_cons h1.pg h2.pgs ha) fun w σ H Q ⟨S, F, v, ρ, h, Q', r, rl, x, q, ln⟩ => by
    obtain ⟨y, ys, rfl, q⟩ := q
    rw [rels_cons] at x
    obtain ⟨w1, ws, rfl, x1, x2⟩ := x
    exact ⟨w1, ws, rfl, S, F, y, ρ, h, _, r, rl, x1, q, fun ρ1 h1 S1 σ1 H1 q1 s1 r1 rl1 => ⟨S1, F, ys, ρ1, h1, Q', r1, rl1, Rels.mono s1 _ _ x2, q1, ln.mono s1⟩⟩⟩
theorem zg_tup {es : List Expr} {k : Nat} {t : WGs} {n : Nat} (hc : X.calm = true) (h : ZGs X es t) (hl : (assignEach es X.env).length = n := by rfl) (hf : (assignEach es X.env).findIdx? (·.1) = none := by rfl) : ZG X (.Tuple es k pos) (wgTup n t) :=
  ⟨pg_imp (pg_tup hc h.pgs hl hf) fun w σ H Q ⟨S, F, v, ρ, h, Q', r, rl, x, q, ln⟩ => by
    obtain ⟨xs, rfl, hn, q⟩ := q
    obtain ⟨a, ws, e, g1, g2⟩ := rel_tupH r x
    exact ⟨a, ws, e, g1, by rw [← g2.length]; exact hn, S, F, xs, ρ, h, Q', r, rl, g2, q, ln⟩⟩
/-- xs[i] = e, d[k] = e -/
abbrev WSet := Val → Val → Val → Hh → (Hh → Prop) → Prop
def SndSet (K : Fr) (t' : WSet) (t : TSet) : Prop := ∀ S F H h o i x v w u (Q' : Hh → Prop) (Q : Hp → Prop), R K S F H h → Rel K S o v → Rel K S i w → Rel K S x u → t' o i x h Q' → (∀ h' S' H', Q' h' → Sub S S' → R K S' F H' h' → Q H') → t v w u H Q
def wgSub (to ti : WE) (t : WSet) (E : XQ) : WG := fun v ρ h Q => to ρ h E fun o h1 => ti ρ h1 E fun i h2 => t o i v h2 fun h3 => Q ρ h3
theorem zg_sub {W0 : WX} {o i : Expr} {to ti : WE} {t : TSet} {t' : WSet} (s : SndSet X.K t' t) (hs : PSet X t) (ho : ZE X W0 o to) (hi : ZE X W0 i ti)
    (he : ∀ v : Value, assign (.Subscript o i pos) X.env v = (do
      let ov ← holding [v] (eval o X.env)
      let iv ← holding [v, ov] (eval i X.env)
      standAt pos
      holding [v, ov, iv] (setItem ov iv v)
      release [v, ov, iv] []) := by intro _; rfl) : ZG X (.Subscript o i pos) (wgSub to ti t' fun _ _ _ => False) :=
  ⟨pg_imp (pg_sub ho.pe hi.pe hs he) fun w σ H Q ⟨S, F, v, ρ, h, Q', r, rl, x, q, ln⟩ =>
    have nox : ∀ S, LX X.K S F (fun _ _ _ => False) W0 σ := fun S _ _ _ _ _ _ _ q => q.elim
    ⟨S, F, ρ, h, _, _, r, rl, q, fun o1 h1 S1 v1 H1 q1 s1 r1 x1 => ⟨S1, F, ρ, h1, _, _, r1, rl.mono s1, q1, fun i1 h2 S2 w2 H2 q2 s2 r2 x2 =>
      s S2 F H2 h2 o1 i1 v v1 w2 w _ _ r2 (Rel.mono s2 _ _ x1) x2 (Rel.mono (s1.trans s2) _ _ x) q2 fun h3 S3 H3 q3 s3 r3 => ln _ _ _ _ _ q3 ((s1.trans s2).trans s3) r3 (rl.mono ((s1.trans s2).trans s3)), nox S1⟩, nox S⟩⟩
def wSetL : WSet := fun o i v h Q => ∃ p xs k j, o = .ref p ∧ i = .int k ∧ h p = some (.lst xs) ∧ L2.ixN xs.length k = some j ∧ Q (hup h p (.lst (xs.set j v)))
theorem s_setL {K : Fr} : SndSet K wSetL rSetL := fun S F H h o i x v w u Q' Q r ro ri rx q l => by
  obtain ⟨p, xs, k, j, rfl, rfl, e, hj, q⟩ := q
  obtain ⟨nS, uu, e1, ws, rfl, e2⟩ := r.own _ _ e
  exact ⟨p, ws, k, j, rel_ref.mp ro, rel_int.mp ri, e1, by rw [← e2.length]; exact hj, l _ S _ q (Sub.refl S) (r.store e ⟨_, rfl, e2.set j rx⟩)⟩
def wAsg (te : WE) (g : WG) : WS := fun nx _ _ _ xe ρ h => te ρ h (atx xe ρ) fun v h1 => g v ρ h1 nx
theorem zs_asg {tg e : Expr} {te : WE} {g : WG} (he : ZE X W e te) (hg : ZG X tg g) (hs : swapsWithSole [tg] e pos.line X.env = pure false := by rfl) (hw : swappedStores [tg] e X.env = pure none := by rfl)
    (ha : (assignEach [tg] X.env).map (·.2) = [assign tg X.env] := by rfl) : ZS X W (.Assign [tg] e pos) (wAsg te g) :=
  ⟨ps_imp (ps_asg he.pe hg.pg hs hw ha) fun D σ H ⟨S, F, ρ, h, nx, rt, bk, ct, xe, r, rl, q, ln, lr, lb, lc, lx⟩ =>
    ⟨S, F, ρ, h, _, _, r, rl, q, fun x h1 S1 v H1 q1 s1 r1 x1 => ⟨S1, F, x, ρ, h1, nx, r1, rl.mono s1, x1, q1, ln.mono s1⟩, lx.at rl⟩⟩
theorem zs_set {i : Nat} {x : Str} {e : Expr} {te : WE} {pos' : Pos} (hN : X.N.Nodup) (hi : X.N[i]? = some x) (hx : Loc X.env.scope x) (he : ZE X W e te) (hs : swapsWith e (some (.Name x pos')) pos.line X.env = pure false := by rfl)
    (hf : X.fn x = true ∨ X.env.scope.names.lookup x = some .local := by first | exact .inl rfl | exact .inr rfl | assumption) : ZS X W (.Assign [.Name x pos'] e pos) (wAsg te (wgName i)) :=
  ⟨ps_imp (ps_set hN hi hx he.pe hs hf) fun D σ H ⟨S, F, ρ, h, nx, rt, bk, ct, xe, r, rl, q, ln, lr, lb, lc, lx⟩ =>
    ⟨S, F, ρ, h, _, _, r, rl, q, fun x h1 S1 v H1 q1 s1 r1 x1 => ln _ _ _ _ _ q1 s1 r1 ((rl.mono s1).set i x1), lx.at rl⟩⟩
def wAug (i : Nat) (te : WE) (r : W2) : WS := fun nx _ _ _ xe ρ h => ∃ x, ρ[i]? = some (some x) ∧ te ρ h (atx xe ρ) fun y h1 => r x y h1 fun z h2 => nx (ρ.set i (some z)) h2
theorem zs_aug {i : Nat} {x : Str} {e : Expr} {te : WE} {op : Operator} {ti : TIp} {r' : W2} {pos' : Pos} (ho : PIp X op ti) (s : Snd2 X.K r' ti) (hN : X.N.Nodup) (hi : X.N[i]? = some x) (hx : Loc X.env.scope x) (he : ZE X W e te)
    (hf : X.fn x = true ∨ X.env.scope.names.lookup x = some .local := by first | exact .inl rfl | exact .inr rfl | assumption) : ZS X W (.AugAssign (.Name x pos') op e pos) (wAug i te r') :=
  ⟨ps_imp (ps_aug hN hi hx he.pe ho hf) fun D σ H ⟨S, F, ρ, h, nx, rt, bk, ct, xe, r, rl, q, ln, lr, lb, lc, lx⟩ => by
    obtain ⟨a, e1, q⟩ := q
    obtain ⟨w, e2, e3⟩ := rl.2 _ _ e1
    exact ⟨w, e2, S, F, ρ, h, _, _, r, rl, q, fun y h1 S1 v H1 q1 s1 r1 x1 => s S1 F H1 h1 a y w v _ _ r1 (Rel.mono s1 _ _ e3) x1 q1 fun z h2 S2 u H2 q2 s2 r2 x2 =>
      ln _ _ _ _ _ q2 (s1.trans s2) r2 ((rl.mono (s1.trans s2)).set i x2), lx.at rl⟩⟩
/-! ### while -/
def wWhile (c : WT) (tb : WS) : WS := fun nx rt _ _ xe ρ h => ∃ I : Nat → EH, (∃ m, I m ρ h) ∧ ∀ m ρ h, I m ρ h → c ρ h (atx xe ρ) fun b h1 =>
  if b = true then tb (fun ρ2 h2 => ∃ m2, m2 < m ∧ I m2 ρ2 h2) rt nx (fun ρ2 h2 => ∃ m2, m2 < m ∧ I m2 ρ2 h2) xe ρ h1 else nx ρ h1
theorem zs_while {c : Expr} {body : List Stmt} {tc : WT} {tb : WS} (hp : PassesOwn (model X.prog X.w) X.A X.env X.xe) (hc : ZT X W c tc) (hb : ZB X W body tb) : ZS X W (.While c body [] pos) (wWhile tc tb) :=
  ⟨ps_imp (ps_while hp hc.pt hb.pss) fun D σ H ⟨S, F, ρ, h, nx, rt, bk, ct, xe, r, rl, q, ln, lr, lb, lc, lx⟩ => by
    obtain ⟨I, ⟨m, q0⟩, turn⟩ := q
    refine ⟨fun m σ H => ∃ S1 ρ h, Sub S S1 ∧ R X.K S1 F H h ∧ Rls X.K S1 ρ σ ∧ I m ρ h, ⟨m, S, ρ, h, Sub.refl S, r, rl, q0⟩, ?_⟩
    rintro m σ1 H1 ⟨S1, ρ1, h1, s1, r1, rl1, i1⟩
    refine ⟨S1, F, ρ1, h1, _, _, r1, rl1, turn m ρ1 h1 i1, fun b h2 S2 H2 q2 s2 r2 => ?_, (lx.mono s1).at rl1⟩
    have s12 := s1.trans s2
    cases b with
    | true =>
      refine iteT ⟨_, fun σ' H' q => q, S2, F, ρ1, h2, _, rt, nx, _, xe, r2, rl1.mono s2, q2, fun ρ3 h3 S3 σ3 H3 q3 s3 r3 rl3 => ?_, lr.mono s12, ln.mono s12, fun ρ3 h3 S3 σ3 H3 q3 s3 r3 rl3 => ?_, lx.mono s12⟩
      · obtain ⟨m2, hm, i3⟩ := q3
        exact ⟨m2, hm, S3, ρ3, h3, s12.trans s3, r3, rl3, i3⟩
      · obtain ⟨m2, hm, i3⟩ := q3
        exact ⟨m2, hm, S3, ρ3, h3, s12.trans s3, r3, rl3, i3⟩
    | false => exact iteF (ln _ _ _ _ _ q2 s12 r2 (rl1.mono s2))⟩
/-! ### what is walked -/
structure JOk (K : Fr) (J : It) (S : Hp) (xs : List Val) (chk : Hh → Prop) : Prop where
  go : ∀ i x S' F H h, xs[i]? = some x → Sub S S' → R K S' F H h → chk h → J.go i H ∧ ∀ w H', J.yld i H w H' → ∃ S2, Sub S' S2 ∧ R K S2 F H' h ∧ Rel K S2 x w
  stop : ∀ i S' F H h, xs.length ≤ i → Sub S S' → R K S' F H h → chk h → J.stop i H
abbrev WI := Ev → Hh → XQ → (List Val → (Hh → Prop) → Hh → Prop) → Prop
def lI (K : Fr) (W : WX) (t : WI) : L2.TI := fun σ H Rr => ∃ S F ρ h E' G, R K S F H h ∧ Rls K S ρ σ ∧ t ρ h E' G ∧ LX K S F E' W σ ∧ ∀ xs chk h' S' H' J, G xs chk h' → Sub S S' → R K S' F H' h' → JOk K J S' xs chk → Rr J H'
structure ZI (X : Cx) (W : WX) (tg iter : Expr) (t : WI) : Prop where
  pi : PI X tg iter (lI X.K W t)
theorem pi_imp {X : Cx} {tg e : Expr} {t t' : L2.TI} (h : PI X tg e t) (i : ∀ σ H Q, t' σ H Q → t σ H Q) : PI X tg e t' := ⟨fun pins s σ H Q I q => h.run pins s σ H Q I (i _ _ _ q)⟩
/-- the items of a list: one that is owned stays as it is while it is walked -/
def Its (h : Hh) (v : Val) (G : List Val → (Hh → Prop) → Hh → Prop) : Prop := (∃ xs, (v = .lst xs ∨ v = .scr xs) ∧ G xs (fun _ => True) h) ∨ ∃ a xs, v = .ref a ∧ h a = some (.lst xs) ∧ G xs (fun h => h a = some (.lst xs)) h
def wiL (t : WE) : WI := fun ρ h E G => t ρ h E fun v h1 => Its h1 v G
theorem vals_unique {P : Program} {w : World} {H : Hp} {hh : Heap} {a : Addr} {xs ys : List V} (h1 : H a = some (.lst xs)) (h2 : H a = some (.lst ys)) : xs = ys := by
  rw [h1] at h2; cases h2; rfl
/-- SqL tells one list only -/
def SqOne (K : Fr) (H : Hp) : Prop := ∀ a xs ys, SqL K H a xs → SqL K H a ys → xs = ys
end
/-! Z5 -/
/-! loops over lists, tuples, ranges, enumerate, zip, texts; comprehensions -/
section
variable {X : Cx} {W : WX} {pos : Pos}
theorem jok_frozen {K : Fr} {S : Hp} {a : Addr} {ws : List V} {xs : List Val} {chk : Hh → Prop} (h1 : SqL K S a ws) (h2 : Rels K S xs ws) : JOk K (Itl K a) S xs chk where
  go := fun i x S' F H h e s r _ => by
    obtain ⟨w, e2, x2⟩ := h2.get e
    have g := r.sub.seqL (s.seqL h1)
    exact ⟨⟨ws, w, g, e2⟩, fun u H' ⟨eH, y⟩ => by
      subst eH
      have z := y ws g
      rw [e2] at z; cases z
      exact ⟨S', Sub.refl _, r, Rel.mono s _ _ x2⟩⟩
  stop := fun i S' F H h e s r _ => ⟨ws, r.sub.seqL (s.seqL h1), by rw [← h2.length]; exact e⟩
theorem jok_owned {K : Fr} {S : Hp} {a : Addr} {xs : List Val} : JOk K (Itl K a) S xs (fun h => h a = some (.lst xs)) where
  go := fun i x S' F H h e s r c => by
    obtain ⟨_, u, h1, ws, rfl, h2⟩ := r.own _ _ c
    obtain ⟨w, e2, x2⟩ := h2.get e
    exact ⟨⟨ws, w, .of h1, e2⟩, fun u H' ⟨eH, y⟩ => by
      subst eH
      have z := y ws (.of h1)
      rw [e2] at z; cases z
      exact ⟨S', Sub.refl _, r, x2⟩⟩
  stop := fun i S' F H h e s r c => by
    obtain ⟨_, u, h1, ws, rfl, h2⟩ := r.own _ _ c
    exact ⟨ws, .of h1, by rw [← h2.length]; exact e⟩
theorem zi_list {tg l : Expr} {tl : WE} (hl : ZE X W l tl) : ZI X W tg l (wiL tl) :=
  ⟨pi_imp (pi_list hl.pe) fun σ H Rr ⟨S, F, ρ, h, E', G, r, rl, q, lx, g⟩ => ⟨S, F, ρ, h, E', _, r, rl, q, fun v h1 S1 w H1 q1 s1 r1 x1 => by
    rcases q1 with ⟨xs, e, q1⟩ | ⟨a, xs, rfl, e, q1⟩
    · have k : ∃ a ws, w = .ref a ∧ SqL X.K S1 a ws ∧ Rels X.K S1 xs ws := by
        rcases e with rfl | rfl
        · rw [rel_lst] at x1; obtain ⟨a, ws, e, h1, h2⟩ := x1; exact ⟨a, ws, e, .of h1, h2⟩
        · rw [rel_scr] at x1; exact x1
      obtain ⟨a, ws, e, h1, h2⟩ := k
      exact ⟨a, e, ⟨ws, r1.sub.seqL h1⟩, g _ _ _ _ _ _ q1 s1 r1 (jok_frozen h1 h2)⟩
    · rw [rel_ref] at x1
      obtain ⟨_, u, h1, ws, rfl, h2⟩ := r1.own _ _ e
      exact ⟨a, x1, ⟨ws, .of h1⟩, g _ _ _ _ _ _ q1 s1 r1 jok_owned⟩, lx⟩⟩
theorem jok_tup {K : Fr} {S : Hp} {a : Addr} {ws : List V} {xs : List Val} {chk : Hh → Prop} (h1 : SqT K S a ws) (h2 : Rels K S xs ws) : JOk K (Itt K a) S xs chk where
  go := fun i x S' F H h e s r _ => by
    obtain ⟨w, e2, x2⟩ := h2.get e
    have g := r.sub.seqT (s.seqT h1)
    exact ⟨⟨ws, w, g, e2⟩, fun u H' ⟨eH, y⟩ => by
      subst eH
      have z := y ws g
      rw [e2] at z; cases z
      exact ⟨S', Sub.refl _, r, Rel.mono s _ _ x2⟩⟩
  stop := fun i S' F H h e s r _ => ⟨ws, r.sub.seqT (s.seqT h1), by rw [← h2.length]; exact e⟩
def wiT (t : WE) : WI := fun ρ h E G => t ρ h E fun v h1 => ∃ xs, v = .tup xs ∧ G xs (fun _ => True) h1
theorem zi_tup {tg l : Expr} {tl : WE} (hl : ZE X W l tl) : ZI X W tg l (wiT tl) :=
  ⟨pi_imp (pi_tup hl.pe) fun σ H Rr ⟨S, F, ρ, h, E', G, r, rl, q, lx, g⟩ => ⟨S, F, ρ, h, E', _, r, rl, q, fun v h1 S1 w H1 q1 s1 r1 x1 => by
    obtain ⟨xs, rfl, q1⟩ := q1
    rw [rel_tup] at x1
    obtain ⟨a, ws, e, h1, h2⟩ := x1
    exact ⟨a, e, ⟨ws, .of (r1.sub _ _ h1)⟩, g _ _ _ _ _ _ q1 s1 r1 (jok_tup (.of h1) h2)⟩, lx⟩⟩
theorem cons_nil {K : Fr} {W : WX} {ta : WE} {σ : L2.St} {H : Hp} {Q : List V → Hp → Prop} {S F : Hp} {ρ : Ev} {h : Hh} {E' : XQ} {Q' : KQ} (r : R K S F H h) (rl : Rls K S ρ σ) (q : ta ρ h E' Q') (lx : LX K S F E' W σ) (l : ∀ v h' S' w H', Q' v h' → Sub S S' → R K S' F H' h' → Rel K S' v w → Q [w] H') : lA K W (wCons ta wNil) σ H Q := by
  refine ⟨S, F, ρ, h, E', fun vs h' => ∃ v, vs = [v] ∧ Q' v h', r, rl, ?_, fun vs h' S' ws H' q1 s1 r1 x1 => ?_, lx⟩
  · show ta ρ h E' fun x h1 => ∃ v, [x] = [v] ∧ Q' v h1
    have e : (fun (x : Val) (h1 : Hh) => ∃ v, [x] = [v] ∧ Q' v h1) = Q' := by
      funext x h1
      simp
    rw [e]
    exact q
  · obtain ⟨v, rfl, q1⟩ := q1
    rw [rels_cons] at x1
    obtain ⟨w1, ws, rfl, x1, x2⟩ := x1
    rw [rels_nil] at x2; subst x2
    exact l _ _ _ _ _ q1 s1 r1 x1
theorem cons2_nil {K : Fr} {W : WX} {ta tb : WE} {σ : L2.St} {H : Hp} {Q : List V → Hp → Prop} {S F : Hp} {ρ : Ev} {h : Hh} {E' : XQ} {Q' : Val → Val → Hh → Prop} (r : R K S F H h) (rl : Rls K S ρ σ) (q : ta ρ h E' fun x h1 => tb ρ h1 E' fun y h2 => Q' x y h2) (lx : LX K S F E' W σ)
    (l : ∀ x y h' S' v w H', Q' x y h' → Sub S S' → R K S' F H' h' → Rel K S' x v → Rel K S' y w → Q [v, w] H') : lA K W (wCons ta (wCons tb wNil)) σ H Q := by
  refine ⟨S, F, ρ, h, E', fun vs h' => ∃ v w, vs = [v, w] ∧ Q' v w h', r, rl, ?_, fun vs h' S' ws H' q1 s1 r1 x1 => ?_, lx⟩
  · show ta ρ h E' fun x h1 => tb ρ h1 E' fun y h2 => ∃ v w, [x, y] = [v, w] ∧ Q' v w h2
    have e : (fun (x : Val) (h1 : Hh) => tb ρ h1 E' fun y h2 => ∃ v w, [x, y] = [v, w] ∧ Q' v w h2) = fun x h1 => tb ρ h1 E' fun y h2 => Q' x y h2 := by
      funext x h1
      congr 1
      funext y h2
      apply propext
      constructor
      · rintro ⟨v, w, e, q⟩; cases e; exact q
      · intro q; exact ⟨x, y, rfl, q⟩
    rw [e]
    exact q
  · obtain ⟨v, w, rfl, q1⟩ := q1
    rw [rels_cons] at x1
    obtain ⟨w1, ws, rfl, x1, x2⟩ := x1
    rw [rels_cons] at x2
    obtain ⟨w2, ws, rfl, x2, x3⟩ := x2
    rw [rels_nil] at x3; subst x3
    exact l _ _ _ _ _ _ _ q1 s1 r1 x1 x2
def rng (lo : Int) (n : Nat) : List Val := (List.range n).map fun (i : Nat) => Val.int (lo + (i : Int))
theorem rng_len {lo : Int} {n : Nat} : (rng lo n).length = n := by simp [rng]
theorem rng_get {lo : Int} {n i : Nat} {x : Val} (h : (rng lo n)[i]? = some x) : i < n ∧ x = .int (lo + i) := by
  unfold rng at h
  rw [List.getElem?_map] at h
  by_cases e : i < n
  · rw [List.getElem?_range e] at h; cases h; exact ⟨e, rfl⟩
  · rw [List.getElem?_eq_none (by simpa using e)] at h; cases h
theorem jok_rng {K : Fr} {S : Hp} {lo : Int} {n : Nat} {chk : Hh → Prop} : JOk K (Itr lo n) S (rng lo n) chk where
  go := fun i x S' F H h e s r _ => by
    obtain ⟨h1, rfl⟩ := rng_get e
    exact ⟨h1, fun w H' ⟨e1, e2⟩ => by subst e1 e2; exact ⟨S', Sub.refl _, r, rel_int.mpr rfl⟩⟩
  stop := fun i S' F H h e s r _ => by rw [rng_len] at e; exact e
def wiR1 (t : WE) : WI := fun ρ h E G => t ρ h E fun v h1 => ∃ j : Int, v = .int j ∧ -(2 ^ 62) ≤ j ∧ j < 2 ^ 62 ∧ G (rng 0 j.toNat) (fun _ => True) h1
def wiR2 (t u : WE) : WI := fun ρ h E G => t ρ h E fun v h1 => u ρ h1 E fun w h2 => ∃ i j : Int, v = .int i ∧ w = .int j ∧ (-(2 ^ 62) ≤ i ∧ i < 2 ^ 62 ∧ -(2 ^ 62) ≤ j ∧ j < 2 ^ 62) ∧ G (rng i (j - i).toNat) (fun _ => True) h2
theorem zi_r1 {tg a : Expr} {ta : WE} {p : Pos} (hg : Gl X "range") (hm : X.mg "range" = none) (ha : ZE X W a ta) (hs : starEach [a] X.env = (false, eval a X.env) :: starEach [] X.env := by rfl) (hs1 : starEach [a] X.env = [(false, eval a X.env)] := by rfl) : ZI X W tg (.Call (.Name "range" p) [a] [] pos) (wiR1 ta) :=
  ⟨pi_imp (pi_range1 hg hm (za_cons ha za_nil hs).pa hs1) fun σ H Rr ⟨S, F, ρ, h, E', G, r, rl, q, lx, g⟩ => cons_nil r rl q lx fun v h1 S1 w H1 q1 s1 r1 x1 => by
    obtain ⟨j, rfl, b1, b2, q1⟩ := q1
    rw [rel_int] at x1; subst x1
    exact ⟨j, rfl, b1, b2, g _ _ _ _ _ _ q1 s1 r1 jok_rng⟩⟩
theorem zi_r2 {tg a b : Expr} {ta tb : WE} {p : Pos} (hg : Gl X "range") (hm : X.mg "range" = none) (ha : ZE X W a ta) (hb : ZE X W b tb) (hs : starEach [a, b] X.env = (false, eval a X.env) :: starEach [b] X.env := by rfl) (hs0 : starEach [b] X.env = (false, eval b X.env) :: starEach [] X.env := by rfl)
    (hs1 : starEach [a, b] X.env = [(false, eval a X.env), (false, eval b X.env)] := by rfl) (hs2 : starEach [b] X.env = [(false, eval b X.env)] := by rfl) : ZI X W tg (.Call (.Name "range" p) [a, b] [] pos) (wiR2 ta tb) :=
  ⟨pi_imp (pi_range2 hg hm (za_cons ha (za_cons hb za_nil hs0) hs).pa hs1 hs2) fun σ H Rr ⟨S, F, ρ, h, E', G, r, rl, q, lx, g⟩ => cons2_nil r rl q lx fun x y h1 S1 v w H1 q1 s1 r1 x1 x2 => by
    obtain ⟨i, j, rfl, rfl, b1, q1⟩ := q1
    rw [rel_int] at x1 x2; subst x1 x2
    exact ⟨i, j, rfl, b1, g _ _ _ _ _ _ q1 s1 r1 jok_rng⟩⟩
/-- a list walked with its turns' numbers -/
def enumV : Nat → List Val → List Val
  | _, [] => []
  | n, x :: xs => .tup [.int (n : Int), x] :: enumV (n + 1) xs
theorem enumV_get : ∀ {xs : List Val} {n i : Nat}, (enumV n xs)[i]? = xs[i]?.map fun x => Val.tup [.int ((n + i : Nat) : Int), x]
  | [], _, _ => by simp [enumV]
  | x :: xs, n, 0 => by simp [enumV]
  | x :: xs, n, i + 1 => by
    show (enumV (n + 1) xs)[i]? = _
    rw [enumV_get]
    have e : n + 1 + i = n + (i + 1) := by omega
    rw [e]
    simp
theorem enumV_len : ∀ {xs : List Val} {n : Nat}, (enumV n xs).length = xs.length
  | [], _ => rfl
  | x :: xs, n => by show (enumV (n + 1) xs).length + 1 = _; rw [enumV_len]; rfl
theorem jok_enum {K : Fr} {J0 : It} {S : Hp} {a : Addr} {xs : List Val} {chk : Hh → Prop} (k : ∀ S' F H h, Sub S S' → R K S' F H h → chk h → ∃ ws, SqL K H a ws ∧ Rels K S' xs ws) : JOk K (Ite K a) S (enumV 0 xs) chk where
  go := fun i x S' F H h e s r c => by
    obtain ⟨ws, g, h2⟩ := k S' F H h s r c
    rw [enumV_get] at e
    cases q : xs[i]? with
    | none => rw [q] at e; cases e
    | some y =>
      rw [q] at e
      cases e
      obtain ⟨w, e2, x2⟩ := h2.get q
      exact ⟨⟨ws, w, g, e2⟩, fun u H' ⟨T, z, eu, hT, eH, y1⟩ => by
        subst eu eH
        have zz := y1 ws g
        rw [e2] at zz; cases zz
        obtain ⟨r2, s2⟩ := r.frozen (u := .tup [.int (i : Int), w]) hT
        refine ⟨_, s2, r2, rel_tup.mpr ⟨T, _, rfl, upd_same, ?_⟩⟩
        exact rels_cons.mpr ⟨_, _, rfl, rel_int.mpr (by simp), Rels.one (Rel.mono s2 _ _ x2)⟩⟩
  stop := fun i S' F H h e s r c => by
    obtain ⟨ws, g, h2⟩ := k S' F H h s r c
    rw [enumV_len] at e
    exact ⟨ws, g, by rw [← h2.length]; exact e⟩
/-- a list, walked: what the layer asks -/
theorem its_l {K : Fr} {S1 F H1 : Hp} {v : Val} {w : V} {h1 : Hh} {G : List Val → (Hh → Prop) → Hh → Prop} (q : Its h1 v G) (r1 : R K S1 F H1 h1) (x1 : Rel K S1 v w) : ∃ a ws xs chk, w = .ref a ∧ SqL K H1 a ws ∧ G xs chk h1 ∧ chk h1 ∧ xs.length = ws.length ∧
    (∀ S' F H h, Sub S1 S' → R K S' F H h → chk h → ∃ ws, SqL K H a ws ∧ Rels K S' xs ws) := by
  rcases q with ⟨xs, e, q1⟩ | ⟨a, xs, rfl, e, q1⟩
  · have k : ∃ a ws, w = .ref a ∧ SqL K S1 a ws ∧ Rels K S1 xs ws := by
      rcases e with rfl | rfl
      · rw [rel_lst] at x1; obtain ⟨a, ws, e, h1, h2⟩ := x1; exact ⟨a, ws, e, .of h1, h2⟩
      · rw [rel_scr] at x1; exact x1
    obtain ⟨a, ws, e, h1, h2⟩ := k
    exact ⟨a, ws, xs, _, e, r1.sub.seqL h1, q1, trivial, h2.length, fun S' F H h s r _ => ⟨ws, r.sub.seqL (s.seqL h1), Rels.mono s _ _ h2⟩⟩
  · rw [rel_ref] at x1
    obtain ⟨_, u, h1, ws, rfl, h2⟩ := r1.own _ _ e
    refine ⟨a, ws, xs, _, x1, .of h1, q1, e, h2.length, fun S' F H h s r c => ?_⟩
    obtain ⟨_, u, h3, ws, rfl, h4⟩ := r.own _ _ c
    exact ⟨ws, .of h3, h4⟩
def wiE (t : WE) : WI := fun ρ h E G => t ρ h E fun v h1 => Its h1 v fun xs chk h => G (enumV 0 xs) chk h
theorem zi_enum {e : Expr} {ta : WE} {p tpos : Pos} {elts : List Expr} {kk : Nat} (hg : Gl X "enumerate") (hm : X.mg "enumerate" = none) (ha : ZE X W e ta) (hs : starEach [e] X.env = (false, eval e X.env) :: starEach [] X.env := by rfl) (hs1 : starEach [e] X.env = [(false, eval e X.env)] := by rfl) :
    ZI X W (.Tuple elts kk tpos) (.Call (.Name "enumerate" p) [e] [] pos) (wiE ta) :=
  ⟨pi_imp (pi_enum hg hm (za_cons ha za_nil hs).pa hs1) fun σ H Rr ⟨S, F, ρ, h, E', G, r, rl, q, lx, g⟩ => cons_nil r rl q lx fun v h1 S1 w H1 q1 s1 r1 x1 => by
    obtain ⟨a, ws, xs, chk, e, h1, h2, h3, h4, h5⟩ := its_l q1 r1 x1
    exact ⟨a, ws, by rw [e], h1, g _ _ _ _ _ _ h2 s1 r1 (jok_enum (J0 := Itl X.K a) h5)⟩⟩
def zipV : List Val → List Val → List Val
  | x :: xs, y :: ys => .tup [x, y] :: zipV xs ys
  | _, _ => []
theorem zipV_get : ∀ {xs ys : List Val} {i : Nat} {z : Val}, (zipV xs ys)[i]? = some z → ∃ x y, xs[i]? = some x ∧ ys[i]? = some y ∧ z = .tup [x, y]
  | [], _, _, _, h => by simp [zipV] at h
  | _ :: _, [], _, _, h => by simp [zipV] at h
  | x :: xs, y :: ys, 0, z, h => by simp [zipV] at h; exact ⟨x, y, rfl, rfl, h.symm⟩
  | x :: xs, y :: ys, i + 1, z, h => zipV_get (xs := xs) (ys := ys) (i := i) h
theorem zipV_len : ∀ {xs ys : List Val}, (zipV xs ys).length = min xs.length ys.length
  | [], _ => by simp [zipV]
  | _ :: _, [] => by simp [zipV]
  | x :: xs, y :: ys => by show (zipV xs ys).length + 1 = _; rw [zipV_len]; simp only [List.length_cons]; omega
theorem jok_zip {K : Fr} {S : Hp} {a b : Addr} {xs ys : List Val} {c1 c2 : Hh → Prop} (k : ∀ S' F H h, Sub S S' → R K S' F H h → c1 h → ∃ ws, SqL K H a ws ∧ Rels K S' xs ws) (k2 : ∀ S' F H h, Sub S S' → R K S' F H h → c2 h → ∃ ws, SqL K H b ws ∧ Rels K S' ys ws) :
    JOk K (Itz K a b) S (zipV xs ys) (fun h => c1 h ∧ c2 h) where
  go := fun i x S' F H h e s r c => by
    obtain ⟨ws, g, h2⟩ := k S' F H h s r c.1
    obtain ⟨us, g', h2'⟩ := k2 S' F H h s r c.2
    obtain ⟨x1, y1, e1, e2, rfl⟩ := zipV_get e
    obtain ⟨w, e3, x2⟩ := h2.get e1
    obtain ⟨w', e3', x2'⟩ := h2'.get e2
    exact ⟨⟨ws, us, w, w', g, g', e3, e3'⟩, fun u H' ⟨T, z, z', eu, hT, eH, y1, y2⟩ => by
      subst eu eH
      have zz := y1 ws g
      rw [e3] at zz; cases zz
      have zz := y2 us g'
      rw [e3'] at zz; cases zz
      obtain ⟨r2, s2⟩ := r.frozen (u := .tup [w, w']) hT
      exact ⟨_, s2, r2, rel_tup.mpr ⟨T, _, rfl, upd_same, rels_cons.mpr ⟨_, _, rfl, Rel.mono s2 _ _ x2, Rels.one (Rel.mono s2 _ _ x2')⟩⟩⟩⟩
  stop := fun i S' F H h e s r c => by
    obtain ⟨ws, g, h2⟩ := k S' F H h s r c.1
    obtain ⟨us, g', h2'⟩ := k2 S' F H h s r c.2
    rw [zipV_len, h2.length, h2'.length] at e
    exact ⟨ws, us, g, g', by omega⟩
def wiZ (t u : WE) : WI := fun ρ h E G => t ρ h E fun v h1 => u ρ h1 E fun w h2 => Its h2 v fun xs c1 _ => Its h2 w fun ys c2 _ => G (zipV xs ys) (fun h => c1 h ∧ c2 h) h2
theorem zi_zip {e e2 : Expr} {ta tb : WE} {p tpos : Pos} {elts : List Expr} {kk : Nat} (hg : Gl X "zip") (hm : X.mg "zip" = none) (ha : ZE X W e ta) (hb : ZE X W e2 tb) (hs : starEach [e, e2] X.env = (false, eval e X.env) :: starEach [e2] X.env := by rfl)
    (hs2 : starEach [e2] X.env = (false, eval e2 X.env) :: starEach [] X.env := by rfl) (hpl : (backTo pos (starEach [e2] X.env)).any (·.1) = false := by rfl) :
    ZI X W (.Tuple elts kk tpos) (.Call (.Name "zip" p) [e, e2] [] pos) (wiZ ta tb) :=
  ⟨pi_imp (pi_zip hg hm (za_cons ha (za_cons hb za_nil hs2) hs).pa hs hpl) fun σ H Rr ⟨S, F, ρ, h, E', G, r, rl, q, lx, g⟩ => cons2_nil r rl q lx fun v w h1 S1 v1 w1 H1 q1 s1 r1 x1 x2 => by
      obtain ⟨a, us, xs, c1, e, g1, q2, c3, l1, k1⟩ := its_l q1 r1 x1
      obtain ⟨b, us2, ys, c2, e', g1', q3, c3', l1', k1'⟩ := its_l q2 r1 x2
      exact ⟨a, b, us, us2, by rw [e, e'], g1, g1', g _ _ _ _ _ _ q3 s1 r1 (jok_zip k1 k1')⟩⟩
/-- the signs of a text -/
def sgn (c : Nat) : Val := .str ⟨#[c]⟩
def wiS (t : WE) : WI := fun ρ h E G => t ρ h E fun v h1 => ∃ x : Str, v = .str x ∧ G (x.cps.toList.map sgn) (fun _ => True) h1
theorem jok_str {K : Fr} {S : Hp} {z : Str} {chk : Hh → Prop} : JOk K (L2.Its z) S (z.cps.toList.map sgn) chk where
  go := fun i x S' F H h e s r _ => by
    rw [List.getElem?_map] at e
    cases q : z.cps.toList[i]? with
    | none => rw [q] at e; cases e
    | some c =>
      rw [q] at e; cases e
      obtain ⟨hl, q2⟩ := List.getElem?_eq_some_iff.mp q
      refine ⟨by show i < z.cps.size; simpa using hl, fun w H' ⟨e1, c', e2, e3⟩ => ?_⟩
      subst e1 e3
      have e4 : z.cps[i]? = some c := by rw [← q]; simp
      rw [e4] at e2; cases e2
      exact ⟨S', Sub.refl _, r, rel_str.mpr rfl⟩
  stop := fun i S' F H h e s r _ => by show z.cps.size ≤ i; simpa using e
theorem zi_str {tg e : Expr} {te : WE} (he : ZE X W e te) : ZI X W tg e (wiS te) :=
  ⟨pi_imp (pi_str he.pe) fun σ H Rr ⟨S, F, ρ, h, E', G, r, rl, q, lx, g⟩ => ⟨S, F, ρ, h, E', _, r, rl, q, fun v h1 S1 w H1 q1 s1 r1 x1 => by
    obtain ⟨x, rfl, q1⟩ := q1
    exact ⟨x, rel_str.mp x1, g _ _ _ _ _ _ q1 s1 r1 jok_str⟩, lx⟩⟩
/-! ### for -/
def wFor (wi : WI) (g : WG) (tb : WS) : WS := fun nx rt _ _ xe ρ h => wi ρ h (atx xe ρ) fun xs chk h1 => ∃ I : Nat → EH, I 0 ρ h1 ∧ ∀ i ρ h, I i ρ h → chk h ∧ (xs.length ≤ i → nx ρ h) ∧
  ∀ x, xs[i]? = some x → g x ρ h fun ρ2 h2 => tb (I (i + 1)) rt nx (I (i + 1)) xe ρ2 h2
theorem zs_for {tg iter : Expr} {body : List Stmt} {wi : WI} {g : WG} {tb : WS} (hp : PassesOwn (model X.prog X.w) X.A X.env X.xe) (hc : X.calm = true) (hi : ZI X W tg iter wi) (hg : ZG X tg g) (hb : ZB X W body tb)
    (hs : ∀ x, foldedSetIterable iter X.env x = pure x := by intro _; rfl) : ZS X W (.For tg iter body [] pos) (wFor wi g tb) :=
  ⟨ps_imp (ps_for hp hc hi.pi hg.pg hb.pss hs) fun D σ H ⟨S, F, ρ, h, nx, rt, bk, ct, xe, r, rl, q, ln, lr, lb, lc, lx⟩ =>
    ⟨S, F, ρ, h, _, _, r, rl, q, lx.at rl, fun xs chk h1 S1 H1 J q1 s1 r1 jok => by
      obtain ⟨I, i0, turn⟩ := q1
      refine ⟨fun i m σ H => m = xs.length - i ∧ ∃ S2 ρ h, Sub S1 S2 ∧ R X.K S2 F H h ∧ Rls X.K S2 ρ σ ∧ I i ρ h, ⟨_, rfl, S1, ρ, h1, Sub.refl _, r1, rl.mono s1, i0⟩, ?_⟩
      rintro i m σ2 H2 ⟨rfl, S2, ρ2, h2, s2, r2, rl2, i2⟩
      obtain ⟨c, fin, step⟩ := turn i ρ2 h2 i2
      have s12 := s1.trans s2
      by_cases hl : xs.length ≤ i
      · exact .inl ⟨jok.stop i S2 F H2 h2 hl s2 r2 c, ln _ _ _ _ _ (fin hl) s12 r2 rl2⟩
      · have hx : xs[i]? = some (xs[i]'(by omega)) := List.getElem?_eq_getElem (by omega)
        obtain ⟨go, yld⟩ := jok.go i _ S2 F H2 h2 hx s2 r2 c
        refine .inr ⟨go, _, fun σ' H' z => z, fun w H3 y => ?_⟩
        obtain ⟨S3, s3, r3, x3⟩ := yld w H3 y
        have s13 := s12.trans s3
        refine ⟨S3, F, _, ρ2, h2, _, r3, rl2.mono s3, x3, step _ hx, fun ρ4 h4 S4 σ4 H4 q4 s4 r4 rl4 => ?_⟩
        have s14 := s13.trans s4
        refine ⟨S4, F, ρ4, h4, _, rt, nx, _, xe, r4, rl4, q4, fun ρ5 h5 S5 σ5 H5 q5 s5 r5 rl5 => ?_, lr.mono s14, ln.mono s14, fun ρ5 h5 S5 σ5 H5 q5 s5 r5 rl5 => ?_, lx.mono s14⟩
        · exact ⟨_, by omega, rfl, S5, ρ5, h5, ((s2.trans s3).trans s4).trans s5, r5, rl5, q5⟩
        · exact ⟨_, by omega, rfl, S5, ρ5, h5, ((s2.trans s3).trans s4).trans s5, r5, rl5, q5⟩⟩⟩
end
/-! Z6 -/
/-! comprehensions; calls of built-ins; methods of built-in types -/
section
variable {X : Cx} {W : WX} {pos : Pos}
/-! ### comprehensions -/
def WF : WX := fun _ _ _ _ => False
theorem lxF {K : Fr} {S F : Hp} {σ : L2.St} {W : WX} : LX K S F (fun _ _ _ => False) W σ := fun _ _ _ _ _ _ _ q => q.elim
def wipeV (ρ : Ev) : List Nat → Ev
  | [] => ρ
  | v :: vs => (wipeV ρ vs).set v none
theorem rls_wipe {K : Fr} {S : Hp} {ρ : Ev} {σ : L2.St} (r : Rls K S ρ σ) : ∀ vs : List Nat, Rls K S (wipeV ρ vs) (wipe σ vs)
  | [] => r
  | v :: vs => (rls_wipe r vs).unset v
abbrev TTs := WT
structure ZTs (X : Cx) (W : WX) (es : List Expr) (t : WT) : Prop where
  pts : PTs X es (lT X.K W t)
theorem pts_imp {X : Cx} {e : List Expr} {t t' : L2.TT} (h : PTs X e t) (i : ∀ σ H Q, t' σ H Q → t σ H Q) : PTs X e t' := ⟨fun pins s σ H Q I q => h.run pins s σ H Q I (i _ _ _ q)⟩
def wYes : WT := fun _ h _ Q => Q true h
theorem zts_nil : ZTs X W [] wYes := ⟨pts_imp pts_nil fun σ H Q ⟨S, F, ρ, h, E', Q', r, rl, q, lq, lx⟩ => lq _ _ _ _ q (Sub.refl S) r⟩
theorem zts_one {c : Expr} {t : WT} (h : ZT X W c t) : ZTs X W [c] t := ⟨pts_one h.pt⟩
/-- a target of names -/
def setAll (ρ : Ev) : List Nat → List Val → Ev
  | v :: vs, x :: xs => setAll (ρ.set v (some x)) vs xs
  | _, _ => ρ
/-- the comprehension's loop: I tells what is made so far -/
def wLcB (tg : Val → Ev → (Ev → Prop) → Prop) (xs : List Val) (chk : Hh → Prop) (tt : WT) (te : WE) (vs : List Nat) (ρ : Ev) (h : Hh) (Q : KQ) : Prop :=
  ∃ I : Nat → List Val → Hh → Prop, I 0 [] h ∧ ∀ i acc h, I i acc h → chk h ∧ (xs.length ≤ i → NewL acc h Q) ∧ ∀ x, xs[i]? = some x → tg x (wipeV ρ vs) fun ρ2 =>
    tt ρ2 h (fun _ _ _ => False) fun b h3 => if b = true then te ρ2 h3 (fun _ _ _ => False) (fun y h4 => acc.length < 16000000 ∧ I (i + 1) (acc ++ [y]) h4) else I (i + 1) acc h3
def tg1 (i : Nat) : Val → Ev → (Ev → Prop) → Prop := fun x ρ Q => Q (ρ.set i (some x))
def tg2 (i j : Nat) : Val → Ev → (Ev → Prop) → Prop := fun x ρ Q => ∃ a b, x = .tup [a, b] ∧ Q ((ρ.set i (some a)).set j (some b))
def tg3 (i j k : Nat) : Val → Ev → (Ev → Prop) → Prop := fun x ρ Q => ∃ a b c, x = .tup [a, b, c] ∧ Q (((ρ.set i (some a)).set j (some b)).set k (some c))
def wLc (wi : WI) (tg : Val → Ev → (Ev → Prop) → Prop) (tt : WT) (te : WE) (vs : List Nat) : WE := fun ρ h E Q => wi ρ h E fun xs chk h1 => wLcB tg xs chk tt te vs ρ h1 Q
/-- a target's two readings: the layer's and ours -/
def TgOk (K : Fr) (g : L2.TG) (tg : Val → Ev → (Ev → Prop) → Prop) (vs : List Nat) : Prop := ∀ S F H h x w (ρ : Ev) (σ : L2.St) (Q' : Ev → Prop) (Q : L2.St → Hp → Prop), R K S F H h → Rel K S x w → Rls K S (wipeV ρ vs) (wipe σ vs) → tg x (wipeV ρ vs) Q' →
  (∀ ρ2 σ2, Q' ρ2 → Rls K S ρ2 σ2 → wipe σ2 vs = wipe σ vs → Q σ2 H) → g w (wipe σ vs) H Q
theorem set_set {α : Type} {l : List α} {i : Nat} {a b : α} : (l.set i a).set i b = l.set i b := by simp
theorem tg1_ok {K : Fr} {i : Nat} : TgOk K (gName i) (tg1 i) [i] := fun S F H h x w ρ σ Q' Q r rx rl q l => by
  refine l _ _ q (rl.set i rx) ?_
  simp [wipe]
theorem tg2_ok {K : Fr} {i j : Nat} : TgOk K (gTup K 2 (gCons (gName i) (gCons (gName j) gNil))) (tg2 i j) [i, j] := fun S F H h x w ρ σ Q' Q r rx rl q l => by
  obtain ⟨a, b, rfl, q⟩ := q
  obtain ⟨p, ws, rfl, g1, g2⟩ := rel_tupH r rx
  rw [rels_cons] at g2
  obtain ⟨w1, r1, rfl, x1, g2⟩ := g2
  rw [rels_cons] at g2
  obtain ⟨w2, r2, rfl, x2, g2⟩ := g2
  rw [rels_nil] at g2; subst g2
  refine ⟨p, _, rfl, g1, rfl, w1, [w2], rfl, w2, [], rfl, rfl, l _ _ q ((rl.set i x1).set j x2) ?_⟩
  simp only [wipe]
  apply List.ext_getElem?
  intro k
  simp only [List.getElem?_set, List.length_set]
  by_cases e1 : i = k <;> by_cases e2 : j = k <;> simp [e1, e2]
theorem tg3_ok {K : Fr} {i j k : Nat} : TgOk K (gTup K 3 (gCons (gName i) (gCons (gName j) (gCons (gName k) gNil)))) (tg3 i j k) [i, j, k] := fun S F H h x w ρ σ Q' Q r rx rl q l => by
  obtain ⟨a, b, c, rfl, q⟩ := q
  obtain ⟨p, ws, rfl, g1, g2⟩ := rel_tupH r rx
  rw [rels_cons] at g2
  obtain ⟨w1, r1, rfl, x1, g2⟩ := g2
  rw [rels_cons] at g2
  obtain ⟨w2, r2, rfl, x2, g2⟩ := g2
  rw [rels_cons] at g2
  obtain ⟨w3, r3, rfl, x3, g2⟩ := g2
  rw [rels_nil] at g2; subst g2
  refine ⟨p, _, rfl, g1, rfl, w1, [w2, w3], rfl, w2, [w3], rfl, w3, [], rfl, rfl, l _ _ q (((rl.set i x1).set j x2).set k x3) ?_⟩
  simp only [wipe]
  apply List.ext_getElem?
  intro m
  simp only [List.getElem?_set, List.length_set]
  by_cases e1 : i = m <;> by_cases e2 : j = m <;> by_cases e3 : k = m <;> simp [e1, e2, e3]
/-- a frame's new object -/
theorem R.held {K : Fr} {S F H : Hp} {h : Hh} {p : Addr} {u : HO} (r : R K S F H h) (n : H p = none) : R K S (upd F p u) (upd H p u) h := by
  have nS : S p = none := r.sub.free n
  refine ⟨fun a o e => ?_, fun a o e => ?_, fun a o e => ?_⟩
  · rw [upd_ne (ne_of_none e nS)]; exact r.sub _ _ e
  · by_cases q : a = p
    · subst q; rw [upd_same] at e ⊢; exact ⟨e, nS, r.fresh n⟩
    · rw [upd_ne q] at e
      rw [upd_ne q]
      exact r.frm a o e
  · obtain ⟨h1, v, h2, h3⟩ := r.own a o e
    have q : a ≠ p := ne_of_none h2 n
    exact ⟨h1, v, by rw [upd_ne q]; exact h2, h3⟩
theorem R.reheld {K : Fr} {S F H : Hp} {h : Hh} {p : Addr} {u v : HO} (r : R K S (upd F p u) H h) (n : F p = none) : R K S (upd F p v) (upd H p v) h := by
  obtain ⟨e1, e2, e3⟩ := r.frm p u upd_same
  refine ⟨fun a o e => ?_, fun a o e => ?_, fun a o e => ?_⟩
  · rw [upd_ne (ne_of_none e e2)]; exact r.sub _ _ e
  · by_cases q : a = p
    · subst q; rw [upd_same] at e ⊢; exact ⟨e, e2, e3⟩
    · rw [upd_ne q] at e
      rw [upd_ne q]
      exact r.frm a o (by rw [upd_ne q]; exact e)
  · obtain ⟨h1, v, h2, h3⟩ := r.own a o e
    have q : a ≠ p := fun z => by subst z; rw [e3] at e; cases e
    exact ⟨h1, v, by rw [upd_ne q]; exact h2, h3⟩
theorem R.held_freeze {K : Fr} {S F H : Hp} {h : Hh} {p : Addr} {u : HO} (r : R K S (upd F p u) H h) (n : F p = none) : R K (upd S p u) F H h ∧ Sub S (upd S p u) := by
  obtain ⟨e1, e2, e3⟩ := r.frm p u upd_same
  refine ⟨⟨fun a o e => ?_, fun a o e => ?_, fun a o e => ?_⟩, Sub.upd e2⟩
  · by_cases q : a = p
    · subst q; rw [upd_same] at e; cases e; exact e1
    · rw [upd_ne q] at e; exact r.sub _ _ e
  · have q : a ≠ p := ne_of_none e n
    obtain ⟨g1, g2, g3⟩ := r.frm a o (by rw [upd_ne q]; exact e)
    exact ⟨g1, by rw [upd_ne q]; exact g2, g3⟩
  · obtain ⟨h1, v, h2, h3⟩ := r.own a o e
    have q : a ≠ p := fun z => by subst z; rw [e3] at e; cases e
    exact ⟨by rw [upd_ne q]; exact h1, v, h2, h3.mono (Sub.upd e2)⟩
theorem zlc_run {K : Fr} {W W' : WX} {wi : WI} {g : L2.TG} {tg : Val → Ev → (Ev → Prop) → Prop} {tt : WT} {te : WE} {vs : List Nat} (gk : TgOk K g tg vs) {σ : L2.St} {H : Hp} {Q : VK} (q : lE K W (wLc wi tg tt te vs) σ H Q) : tLc (lI K W wi) g (lT K W' tt) (lE K W' te) vs σ H Q := by
  obtain ⟨S, F, ρ, h, E', Q', r, rl, q, lq, lx⟩ := q
  refine ⟨S, F, ρ, h, E', _, r, rl, q, lx, fun xs chk h1 S1 H1 J q1 s1 r1 jok D hD => ?_⟩
  obtain ⟨I, i0, turn⟩ := q1
  have nF : F D = none := by
    cases z : F D with
    | none => rfl
    | some o => have := (r1.frm _ _ z).1; rw [hD] at this; cases this
  refine ⟨fun i m H => m = xs.length - i ∧ ∃ S2 h acc wacc, Sub S1 S2 ∧ R K S2 (upd F D (.lst wacc)) H h ∧ Rels K S2 acc wacc ∧ I i acc h, ⟨_, rfl, S1, h1, [], [], Sub.refl _, r1.held hD, rels_nil.mpr rfl, i0⟩, ?_⟩
  rintro i m H2 ⟨rfl, S2, h2, acc, wacc, s2, r2, xa, i2⟩
  obtain ⟨c, fin, step⟩ := turn i acc h2 i2
  have s12 := s1.trans s2
  by_cases hl : xs.length ≤ i
  · refine .inl ⟨jok.stop i S2 _ H2 h2 hl s2 r2 c, ?_⟩
    rcases fin hl with q | q
    · have e3 := (r2.frm D _ upd_same).2.2
      exact lq _ _ S2 _ _ (q D e3) s12 (r2.unhold nF (o := .lst acc) ⟨wacc, rfl, xa⟩).2 (rel_ref.mpr rfl)
    · obtain ⟨r3, s3⟩ := r2.held_freeze nF
      exact lq _ _ _ _ _ q (s12.trans s3) r3 (rel_lst.mpr ⟨D, wacc, rfl, upd_same, Rels.mono s3 _ _ xa⟩)
  · have hx : xs[i]? = some (xs[i]'(by omega)) := List.getElem?_eq_getElem (by omega)
    obtain ⟨go, yld⟩ := jok.go i _ S2 _ H2 h2 hx s2 r2 c
    refine .inr ⟨go, _, fun H' z => z, fun w H3 y => ?_⟩
    obtain ⟨S3, s3, r3, x3⟩ := yld w H3 y
    refine gk S3 _ H3 h2 _ w ρ σ _ _ r3 x3 (rls_wipe (rl.mono (s12.trans s3)) vs) (step _ hx) fun ρ2 σ2 q2 rl2 ew => ⟨ew, ?_⟩
    refine ⟨S3, _, ρ2, h2, _, _, r3, rl2, q2, fun b h4 S4 H4 q4 s4 r4 => ?_, lxF⟩
    cases b with
    | true =>
      refine iteT ⟨S4, _, ρ2, h4, _, _, r4, rl2.mono s4, (by rw [if_pos rfl] at q4; exact q4), fun v h5 S5 w5 H5 q5 s5 r5 x5 => ?_, lxF⟩
      have e5 := (r5.frm D _ upd_same).1
      have xa5 := Rels.mono ((s3.trans s4).trans s5) _ _ xa
      have ln := xa5.length
      have hz := sizeLine_eq
      exact ⟨wacc, e5, by rw [← ln]; have := q5.1; omega, _, by omega, rfl, S5, h5, acc ++ [v], wacc ++ [w5], ((s2.trans s3).trans s4).trans s5, r5.reheld nF, xa5.app (Rels.one x5), q5.2⟩
    | false =>
      rw [if_neg Bool.false_ne_true] at q4
      refine iteF ⟨_, ?_, rfl, S4, h4, acc, wacc, (s2.trans s3).trans s4, r4, Rels.mono (s3.trans s4) _ _ xa, q4⟩
      omega
/-- [elt for x in iter if ..] -/
theorem zlc {elt tg0 iter : Expr} {ifs : List Expr} {scope : Scope} {own : List (Str × Nat)} {wi : WI} {g : L2.TG} {tg : Val → Ev → (Ev → Prop) → Prop} {tt : WT} {te : WE} (gk : TgOk X.K g tg (own.map (·.2))) (hc : X.calm = true) (hN : X.N.Nodup) (hi : ZI X W tg0 iter wi) (ok : BlkOk X.N X.env.scope scope own)
    (hg : ∀ (s : Shared) (H : Hp) (C : Addr) (cl : List (Str × Addr)) (fp : List Addr), PG (X.blk s H scope (compEnvC scope cl C X.env) fp) tg0 g)
    (ht : ∀ (s : Shared) (H : Hp) (C : Addr) (cl : List (Str × Addr)) (fp : List Addr), ZTs (X.blk s H scope (compEnvC scope cl C X.env) fp) WF ifs tt)
    (he : ∀ (s : Shared) (H : Hp) (C : Addr) (cl : List (Str × Addr)) (fp : List Addr), ZE (X.blk s H scope (compEnvC scope cl C X.env) fp) WF elt te)
    (hs : ∀ x, foldedSetIterable iter X.env x = pure x := by intro _; rfl) : ZE X W (.ListComp elt [{ target := tg0, iter := iter, ifs := ifs, is_async := 0 }] scope pos) (wLc wi tg tt te (own.map (·.2))) :=
  ⟨pe_imp (pe_lc hc hN hi.pi ok hg (fun s H C cl fp => (ht s H C cl fp).pts) (fun s H C cl fp => (he s H C cl fp).pe) hs) fun σ H Q q => zlc_run gk q⟩
/-- y = [elt for x in iter if ..] -/
theorem zs_setLc {i : Nat} {y : Str} {py spos : Pos} {elt tg0 iter : Expr} {ifs : List Expr} {scope : Scope} {own : List (Str × Nat)} {wi : WI} {g : L2.TG} {tg : Val → Ev → (Ev → Prop) → Prop} {tt : WT} {te : WE} (gk : TgOk X.K g tg (own.map (·.2))) (hc : X.calm = true) (hN : X.N.Nodup) (hy : X.N[i]? = some y)
    (hk : X.env.scope.names.lookup y = some .local) (hsw : swapsWith (.ListComp elt [{ target := tg0, iter := iter, ifs := ifs, is_async := 0 }] scope pos) (some (.Name y py)) spos.line X.env = pure true) (hi : ZI X W tg0 iter wi) (ok : BlkOk X.N X.env.scope scope own)
    (hg : ∀ (s : Shared) (H : Hp) (C : Addr) (cl : List (Str × Addr)) (fp : List Addr), PG (X.blk s H scope (compEnvC scope cl C X.env) fp) tg0 g)
    (ht : ∀ (s : Shared) (H : Hp) (C : Addr) (cl : List (Str × Addr)) (fp : List Addr), ZTs (X.blk s H scope (compEnvC scope cl C X.env) fp) WF ifs tt)
    (he : ∀ (s : Shared) (H : Hp) (C : Addr) (cl : List (Str × Addr)) (fp : List Addr), ZE (X.blk s H scope (compEnvC scope cl C X.env) fp) WF elt te)
    (hs : ∀ x, foldedSetIterable iter X.env x = pure x := by intro _; rfl) : ZS X W (.Assign [.Name y py] (.ListComp elt [{ target := tg0, iter := iter, ifs := ifs, is_async := 0 }] scope pos) spos) (wAsg (wLc wi tg tt te (own.map (·.2))) (wgName i)) :=
  ⟨ps_imp (ps_setLc hc hN hy hk hsw hi.pi ok hg (fun s H C cl fp => (ht s H C cl fp).pts) (fun s H C cl fp => (he s H C cl fp).pe) hs) fun D σ H ⟨S, F, ρ, h, nx, rt, bk, ct, xe, r, rl, q, ln, lr, lb, lc, lx⟩ =>
    zlc_run (W := W) (W' := WF) gk ⟨S, F, ρ, h, _, _, r, rl, q, fun x h1 S1 v H1 q1 s1 r1 x1 => ln _ _ _ _ _ q1 s1 r1 ((rl.mono s1).set i x1), lx.at rl⟩⟩

/-! ### calls of built-ins -/
abbrev WC := List Val → Hh → KQ → Prop
def SndC (K : Fr) (r' : WC) (r : List V → Hp → VK → Prop) : Prop := ∀ S F H h xs vs Q' Q, R K S F H h → Rels K S xs vs → r' xs h Q' → LQ K S F Q' Q → r vs H Q
def wCB (r : WC) (t : WA) : WE := fun ρ h E Q => t ρ h E fun vs h1 => r vs h1 Q
theorem zcallB {x : Str} {p : Pos} {e : Expr} {es : List Expr} {t : WA} {id : String} {r : List V → Hp → VK → Prop} {r' : WC} (hc : CallR X (.builtin id) r) (s : SndC X.K r' r) (hg : Gl X x) (hm : X.mg x = none) (hv : bootBuiltins x = some (.builtin id)) (ha : ZA X W (e :: es) t)
    (hn : x ≠ "__name__" := by decide) (hdb : (x == ("__debug__" : Str)) = false := by decide) (he : starEach (e :: es) X.env = (false, eval e X.env) :: starEach es X.env := by rfl) (hpl : (backTo pos (starEach es X.env)).any (·.1) = false := by rfl) :
    ZE X W (.Call (.Name x p) (e :: es) [] pos) (wCB r' t) :=
  ⟨pe_imp (pe_callB hc hg hm hv ha.pa hn hdb he hpl) fun σ H Q ⟨S, F, ρ, h, E', Q', r, rl, q, lq, lx⟩ =>
    ⟨S, F, ρ, h, E', _, r, rl, q, fun vs h1 S1 ws H1 q1 s1 r1 x1 => s S1 F H1 h1 vs ws _ Q r1 x1 q1 (lq.mono s1), lx⟩⟩
theorem zcallTy {x : Str} {p : Pos} {e : Expr} {es : List Expr} {t : WA} {T : String} {r : List V → Hp → VK → Prop} {r' : WC} (hc : CallR X (.type T) r) (s : SndC X.K r' r) (hg : Gl X x) (hm : X.mg x = none) (hv : bootBuiltins x = some (.type T)) (ha : ZA X W (e :: es) t)
    (hn : x ≠ "__name__" := by decide) (hdb : (x == ("__debug__" : Str)) = false := by decide) (he : starEach (e :: es) X.env = (false, eval e X.env) :: starEach es X.env := by rfl) (hpl : (backTo pos (starEach es X.env)).any (·.1) = false := by rfl) :
    ZE X W (.Call (.Name x p) (e :: es) [] pos) (wCB r' t) :=
  ⟨pe_imp (pe_callTy hc hg hm hv ha.pa hn hdb he hpl) fun σ H Q ⟨S, F, ρ, h, E', Q', r, rl, q, lq, lx⟩ =>
    ⟨S, F, ρ, h, E', _, r, rl, q, fun vs h1 S1 ws H1 q1 s1 r1 x1 => s S1 F H1 h1 vs ws _ Q r1 x1 q1 (lq.mono s1), lx⟩⟩
/-- a built-in class as a value -/
theorem ztyp {x : Str} {n : String} (hg : Gl X x) (hm : X.mg x = none) (hv : bootBuiltins x = some (.type n)) (hn : x ≠ "__name__" := by decide) (hd : (x == ("__debug__" : Str)) = false := by decide) : ZE X W (.Name x pos) (wC (.ty n)) :=
  zc (pe_bltn (v := .ty n) hg hm hv rfl hn hd) fun _ => rel_ty.mpr rfl
theorem rels_1 {K : Fr} {S : Hp} {x : Val} {vs : List V} (h : Rels K S [x] vs) : ∃ w, vs = [w] ∧ Rel K S x w := by
  rw [rels_cons] at h
  obtain ⟨w, r, rfl, h1, h2⟩ := h
  rw [rels_nil] at h2; subst h2
  exact ⟨w, rfl, h1⟩
theorem rels_2 {K : Fr} {S : Hp} {x y : Val} {vs : List V} (h : Rels K S [x, y] vs) : ∃ w u, vs = [w, u] ∧ Rel K S x w ∧ Rel K S y u := by
  rw [rels_cons] at h
  obtain ⟨w, r, rfl, h1, h2⟩ := h
  obtain ⟨u, rfl, h3⟩ := rels_1 h2
  exact ⟨w, u, rfl, h1, h3⟩
/-- len -/
inductive LenN (h : Hh) : Val → Nat → Prop
  | lst {x xs} : Seqq h x xs → LenN h x xs.length
  | tup {xs} : LenN h (.tup xs) xs.length
  | str {z : Str} : z.length ≤ sizeLine → LenN h (.str z) z.length
theorem LenN.l {K : Fr} {S F H : Hp} {h : Hh} {x : Val} {n : Nat} {v : V} (q : LenN h x n) (r : R K S F H h) (x1 : Rel K S x v) : LenV K v H n := by
  cases q with
  | lst q => obtain ⟨a, ws, rfl, h1, h2⟩ := q.l r x1; exact .inl ⟨ws, h1, h2.length⟩
  | tup => obtain ⟨a, ws, rfl, h1, h2⟩ := rel_tupH r x1; exact .inr ⟨ws, h1, h2.length⟩
  | str e => rw [rel_str] at x1; subst x1; exact ⟨e, rfl⟩
def cLen : WC := fun vs h Q => ∃ x n, vs = [x] ∧ LenN h x n ∧ Q (.int (n : Int)) h
theorem s_len {K : Fr} : SndC K cLen (fun xs H Q => ∃ x n, xs = [x] ∧ LenV K x H n ∧ Q (.int n) H) := fun S F H h xs vs Q' Q r rx q lq => by
  obtain ⟨x, n, rfl, q1, q⟩ := q
  obtain ⟨w, rfl, x1⟩ := rels_1 rx
  exact ⟨w, n, rfl, q1.l r x1, lq _ _ S _ _ q (Sub.refl S) r (rel_int.mpr rfl)⟩
/-- max(a, b), min(a, b) of ints -/
def cMax2 : WC := fun vs h Q => ∃ i j, vs = [.int i, .int j] ∧ Q (.int (if j > i then j else i)) h
theorem s_max2 {K : Fr} : SndC K cMax2 (fun xs H Q => ∃ i j, xs = [V.int i, V.int j] ∧ Q (V.int (if j > i then j else i)) H) := fun S F H h xs vs Q' Q r rx q lq => by
  obtain ⟨i, j, rfl, q⟩ := q
  obtain ⟨w, u, rfl, x1, x2⟩ := rels_2 rx
  rw [rel_int] at x1 x2; subst x1 x2
  exact ⟨i, j, rfl, lq _ _ S _ _ q (Sub.refl S) r (rel_int.mpr rfl)⟩
def cMin2 : WC := fun vs h Q => ∃ i j, vs = [.int i, .int j] ∧ Q (.int (if j < i then j else i)) h
theorem s_min2 {K : Fr} : SndC K cMin2 (fun xs H Q => ∃ i j, xs = [V.int i, V.int j] ∧ Q (V.int (if j < i then j else i)) H) := fun S F H h xs vs Q' Q r rx q lq => by
  obtain ⟨i, j, rfl, q⟩ := q
  obtain ⟨w, u, rfl, x1, x2⟩ := rels_2 rx
  rw [rel_int] at x1 x2; subst x1 x2
  exact ⟨i, j, rfl, lq _ _ S _ _ q (Sub.refl S) r (rel_int.mpr rfl)⟩
/-- isinstance(x, T) of built-in classes -/
inductive TyN (h : Hh) : Val → String → Prop
  | non : TyN h .non "NoneType"
  | bl (b) : TyN h (.bl b) "bool"
  | int (i) : TyN h (.int i) "int"
  | str (z) : TyN h (.str z) "str"
  | tup (xs) : TyN h (.tup xs) "tuple"
  | lst {x xs} : Seqq h x xs → TyN h x "list"
theorem TyN.l {K : Fr} {S F H : Hp} {h : Hh} {x : Val} {n : String} {v : V} (q : TyN h x n) (r : R K S F H h) (x1 : Rel K S x v) : TyX K H v (.type n) := by
  cases q with
  | non => rw [rel_non] at x1; subst x1; exact .base .non
  | bl b => rw [rel_bl] at x1; subst x1; exact .base (.bl b)
  | int i => rw [rel_int] at x1; subst x1; exact .base (.int i)
  | str z => rw [rel_str] at x1; subst x1; exact .base (.str z)
  | tup xs =>
    obtain ⟨a, ws, rfl, h1, h2⟩ := rel_tupH r x1
    rcases h1 with (h1 | ⟨o, h1⟩) | ⟨o, its, m, h1, h3, _⟩
    · exact .base (.tup h1)
    · exact .fTuple h1
    · exact .kTuple h1 h3
  | lst q =>
    obtain ⟨a, ws, rfl, h1, h2⟩ := q.l r x1
    rcases h1 with (h1 | ⟨o, h1⟩) | ⟨o, its, m, h1, h3, _⟩
    · exact .base (.lst h1)
    · exact .base (.frz h1)
    · exact .kList h1 h3
def cIsi : WC := fun vs h Q => ∃ x n T b, vs = [x, .ty T] ∧ TyN h x n ∧ kitB n T = some b ∧ Q (.bl b) h
theorem s_isi {K : Fr} : SndC K cIsi (rIsi K) := fun S F H h xs vs Q' Q r rx q lq => by
  obtain ⟨x, n, T, b, rfl, q1, q2, q⟩ := q
  obtain ⟨w, u, rfl, x1, x2⟩ := rels_2 rx
  rw [rel_ty] at x2; subst x2
  exact ⟨w, .ty T, .type n, .type T, b, rfl, .ty T, q1.l r x1, kit_ty q2, lq _ _ S _ _ q (Sub.refl S) r (rel_bl.mpr rfl)⟩
/-- list(x), tuple(x) -/
inductive SeqT (h : Hh) : Val → List Val → Prop
  | lst {x xs} : Seqq h x xs → SeqT h x xs
  | tup (xs) : SeqT h (.tup xs) xs
theorem SeqT.l {K : Fr} {S F H : Hp} {h : Hh} {x : Val} {xs : List Val} {v : V} (q : SeqT h x xs) (r : R K S F H h) (x1 : Rel K S x v) : ∃ a ws, v = .ref a ∧ (SqL K H a ws ∨ SqT K H a ws) ∧ Rels K S xs ws := by
  cases q with
  | lst q => obtain ⟨a, ws, e, h1, h2⟩ := q.l r x1; exact ⟨a, ws, e, .inl h1, h2⟩
  | tup => obtain ⟨a, ws, e, h1, h2⟩ := rel_tupH r x1; exact ⟨a, ws, e, .inr h1, h2⟩
def cList : WC := fun vs h Q => ∃ x xs, vs = [x] ∧ SeqT h x xs ∧ NewL xs h Q
theorem s_list {K : Fr} : SndC K cList (fun xs H Q => ∃ p ys, xs = [V.ref p] ∧ (SqL K H p ys ∨ SqT K H p ys) ∧ ∀ (l : Addr), H l = none → Q (V.ref l) (upd H l (HO.lst ys))) := fun S F H h xs vs Q' Q r rx q lq => by
  obtain ⟨x, ys, rfl, q1, q⟩ := q
  obtain ⟨w, rfl, x1⟩ := rels_1 rx
  obtain ⟨a, ws, rfl, h1, h2⟩ := q1.l r x1
  exact ⟨a, ws, rfl, h1, fun l n => newl r h2 q lq n⟩
def cTuple : WC := fun vs h Q => ∃ x xs, vs = [x] ∧ SeqT h x xs ∧ Q (.tup xs) h
theorem s_tuple {K : Fr} : SndC K cTuple (fun xs H Q => ∃ p ys, xs = [V.ref p] ∧ ((SqL K H p ys ∧ ∀ (l : Addr), H l = none → Q (V.ref l) (upd H l (HO.tup ys))) ∨ SqT K H p ys ∧ Q (V.ref p) H)) := fun S F H h xs vs Q' Q r rx q lq => by
  obtain ⟨x, ys, rfl, q1, q⟩ := q
  obtain ⟨w, rfl, x1⟩ := rels_1 rx
  cases q1 with
  | lst q1 =>
    obtain ⟨a, ws, rfl, h1, h2⟩ := q1.l r x1
    exact ⟨a, ws, rfl, .inl ⟨h1, fun l n => newt r h2 q lq n⟩⟩
  | tup =>
    obtain ⟨a, ws, rfl, h1, h2⟩ := rel_tupH r x1
    exact ⟨a, ws, rfl, .inr ⟨h1, lq _ _ S _ _ q (Sub.refl S) r x1⟩⟩
/-- sum(xs) of ints -/
def cSum : WC := fun vs h Q => ∃ (x : Val) (ns : List Int), vs = [x] ∧ Seqq h x (ns.map Val.int) ∧ Q (.int ns.sum) h
theorem s_sum {K : Fr} : SndC K cSum (rSum K) := fun S F H h xs vs Q' Q r rx q lq => by
  obtain ⟨x, ns, rfl, q1, q⟩ := q
  obtain ⟨w, rfl, x1⟩ := rels_1 rx
  obtain ⟨a, ws, rfl, h1, h2⟩ := q1.l r x1
  rw [Rels.ints] at h2; subst h2
  exact ⟨a, ns, rfl, h1, lq _ _ S _ _ q (Sub.refl S) r (rel_int.mpr rfl)⟩
/-- int(n), int(flag) -/
def cInt : WC := fun vs h Q => (∃ i, vs = [.int i] ∧ Q (.int i) h) ∨ ∃ k, vs = [.bl k] ∧ Q (.int (if k then 1 else 0)) h
theorem s_int {K : Fr} : SndC K cInt (fun xs H Q => (∃ i, xs = [V.int i] ∧ Q (V.int i) H) ∨ ∃ k, xs = [V.bl k] ∧ Q (V.int (if k then 1 else 0)) H) := fun S F H h xs vs Q' Q r rx q lq => by
  rcases q with ⟨i, rfl, q⟩ | ⟨k, rfl, q⟩
  · obtain ⟨w, rfl, x1⟩ := rels_1 rx
    rw [rel_int] at x1; subst x1
    exact .inl ⟨i, rfl, lq _ _ S _ _ q (Sub.refl S) r (rel_int.mpr rfl)⟩
  · obtain ⟨w, rfl, x1⟩ := rels_1 rx
    rw [rel_bl] at x1; subst x1
    exact .inr ⟨k, rfl, lq _ _ S _ _ q (Sub.refl S) r (rel_int.mpr rfl)⟩
/-! ### methods of built-in types -/
abbrev WM := Val → List Val → Hh → KQ → Prop
def SndM (K : Fr) (r' : WM) (r : V → List V → Hp → VK → Prop) : Prop := ∀ S F H h x v xs vs Q' Q, R K S F H h → Rel K S x v → Rels K S xs vs → r' x xs h Q' → LQ K S F Q' Q → r v vs H Q
inductive TyM (h : Hh) : String → Val → Prop
  | str (z) : TyM h "str" (.str z)
  | lst {x xs} : Seqq h x xs → TyM h "list" x
  | dK {a kvs} : h a = some (.dK kvs) → TyM h "dict" (.ref a)
  | dT {a kvs} : h a = some (.dT kvs) → TyM h "dict" (.ref a)
theorem TyM.l {K : Fr} {S F H : Hp} {h : Hh} {x : Val} {T : String} {v : V} (q : TyM h T x) (r : R K S F H h) (x1 : Rel K S x v) : tyV K T v H := by
  cases q with
  | str z => rw [rel_str] at x1; subst x1; exact rfl
  | lst q => obtain ⟨a, ws, rfl, h1, h2⟩ := q.l r x1; exact .inl ⟨rfl, ws, h1⟩
  | dK e => rw [rel_ref] at x1; subst x1; obtain ⟨_, u, h1, ws, rfl, _⟩ := r.own _ _ e; exact .inr (.inr (.inl ⟨rfl, .inl ⟨_, h1⟩⟩))
  | dT e => rw [rel_ref] at x1; subst x1; obtain ⟨_, u, h1, ws, rfl, _⟩ := r.own _ _ e; exact .inr (.inr (.inl ⟨rfl, .inr ⟨_, h1⟩⟩))
def wBM (T : String) (r : WM) (to : WE) (t : WA) : WE := fun ρ h E Q => to ρ h E fun x h1 => TyM h1 T x ∧ t ρ h1 E fun xs h2 => r x xs h2 Q
def wBM0 (T : String) (r : WM) (to : WE) : WE := fun ρ h E Q => to ρ h E fun x h1 => TyM h1 T x ∧ r x [] h1 Q
theorem zbm {o e : Expr} {es : List Expr} {to : WE} {t : WA} {name : Str} {apos cpos : Pos} {T id : String} {r : V → List V → Hp → VK → Prop} {r' : WM} (hp : PlainAttrs T) (hs : Slot T name id) (hd : typeOf (.builtin id) = pure (.type "method_descriptor")) (hr : MtR X id r) (s : SndM X.K r' r) (ho : ZE X W o to) (ha : ZA X W (e :: es) t)
    (hb : attributeBase o name X.env (eval o X.env) = eval o X.env := by rfl)
    (hq : ((((backTo cpos (starEach (e :: es) X.env)).all fun x => !x.1) && (backToKw cpos (keywordEach [] X.env)).all fun x => x.1.isSome) && decide (((e :: es).length + ([] : List Keyword).length + if ([] : List Keyword).isEmpty = true then 0 else 1) < 30)) = true := by rfl)
    (hl : (apos.endLine == cpos.line) = true := by rfl) (he : starEach (e :: es) X.env = (false, eval e X.env) :: starEach es X.env := by rfl) (hpl : (backTo cpos (starEach es X.env)).any (·.1) = false := by rfl) :
    ZE X W (.Call (.Attribute o name apos) (e :: es) [] cpos) (wBM T r' to t) :=
  ⟨pe_imp (pe_bm hp hs hd hr ho.pe ha.pa hb hq hl he hpl) fun σ H Q ⟨S, F, ρ, h, E', Q', r, rl, q, lq, lx⟩ =>
    ⟨S, F, ρ, h, E', _, r, rl, q, fun x h1 S1 v H1 q1 s1 r1 x1 => ⟨q1.1.l r1 x1, S1, F, ρ, h1, E', _, r1, rl.mono s1, q1.2, fun xs h2 S2 vs H2 q2 s2 r2 x2 =>
      s S2 F H2 h2 x v xs vs _ Q r2 (Rel.mono s2 _ _ x1) x2 q2 ((lq.mono s1).mono s2), lx.mono s1⟩, lx⟩⟩
theorem zbm0 {o : Expr} {to : WE} {name : Str} {apos cpos : Pos} {T id : String} {r : V → List V → Hp → VK → Prop} {r' : WM} (hp : PlainAttrs T) (hs : Slot T name id) (hd : typeOf (.builtin id) = pure (.type "method_descriptor")) (hr : MtR X id r) (s : SndM X.K r' r) (ho : ZE X W o to)
    (hb : attributeBase o name X.env (eval o X.env) = eval o X.env := by rfl) (hl : (apos.endLine == cpos.line) = true := by rfl) : ZE X W (.Call (.Attribute o name apos) [] [] cpos) (wBM0 T r' to) :=
  ⟨pe_imp (pe_bm0 hp hs hd hr ho.pe hb hl) fun σ H Q ⟨S, F, ρ, h, E', Q', r, rl, q, lq, lx⟩ =>
    ⟨S, F, ρ, h, E', _, r, rl, q, fun x h1 S1 v H1 q1 s1 r1 x1 => ⟨q1.1.l r1 x1, s S1 F H1 h1 x v [] [] _ Q r1 x1 (rels_nil.mpr rfl) q1.2 (lq.mono s1)⟩, lx⟩⟩
def mAppend : WM := fun x vs h Q => ∃ l xs y, x = .ref l ∧ vs = [y] ∧ h l = some (.lst xs) ∧ xs.length < 16000000 ∧ Q .non (hup h l (.lst (xs ++ [y])))
theorem s_append {K : Fr} : SndM K mAppend rAppend := fun S F H h x v xs vs Q' Q r rx rxs q lq => by
  obtain ⟨l, ys, y, rfl, rfl, e, hl, q⟩ := q
  obtain ⟨w, rfl, x1⟩ := rels_1 rxs
  rw [rel_ref] at rx
  obtain ⟨_, u, h1, ws, rfl, h2⟩ := r.own _ _ e
  have hz := sizeLine_eq
  exact ⟨l, ws, w, rx, rfl, h1, by rw [← h2.length]; omega, lq _ _ S _ _ q (Sub.refl S) (r.store e ⟨_, rfl, h2.app (Rels.one x1)⟩) (rel_non.mpr rfl)⟩
def mPopAt : WM := fun x vs h Q => ∃ l xs i k y, x = .ref l ∧ vs = [.int i] ∧ h l = some (.lst xs) ∧ -(2 ^ 63) ≤ i ∧ i < 2 ^ 63 ∧ seqIndex? i xs.length = some k ∧ xs[k]? = some y ∧ Q y (hup h l (.lst (xs.eraseIdx k)))
theorem s_popAt {K : Fr} : SndM K mPopAt rPopAt := fun S F H h x v xs vs Q' Q r rx rxs q lq => by
  obtain ⟨l, ys, i, k, y, rfl, rfl, e, b1, b2, hk, hy, q⟩ := q
  obtain ⟨w, rfl, x1⟩ := rels_1 rxs
  rw [rel_ref] at rx
  rw [rel_int] at x1; subst x1
  obtain ⟨_, u, h1, ws, rfl, h2⟩ := r.own _ _ e
  obtain ⟨w2, e2, x2⟩ := h2.get hy
  exact ⟨l, ws, i, k, w2, rx, rfl, h1, b1, b2, by rw [← h2.length]; exact hk, e2, lq _ _ S _ _ q (Sub.refl S) (r.store e ⟨_, rfl, h2.erase k⟩) x2⟩
end
/-! Z7 -/
/-! own defs: promises, calls, methods, instances; a def by its body -/
open PyProof.Rows
/-- a promise: parameters, what must hold ahead, what holds behind, what is let out -/
structure FS where
  P : Type
  pre : P → List Val → Hh → Prop
  post : P → Hh → Val → Hh → Prop
  xpost : P → Hh → Addr → Val → Hh → Prop := fun _ _ _ _ _ => False
def FS.sp (fs : FS) (vs : List Val) (h : Hh) (E : XQ) (Q : KQ) : Prop := ∃ p, fs.pre p vs h ∧ (∀ v h', fs.post p h v h' → Q v h') ∧ ∀ C v h', fs.xpost p h C v h' → E C v h'
def lSp (K : Fr) (fs : FS) : L2.Sp := fun ws H Q E => ∃ S F vs h E' Q', R K S F H h ∧ Rels K S vs ws ∧ fs.sp vs h E' Q' ∧ LQ K S F Q' Q ∧
  ∀ C v h' S' w d H', E' C v h' → Sub S S' → R K S' F H' h' → Rel K S' v w → S' d = some (.xd [("what", w)]) → E (.ref C) (some d) H'
/-- a def of the module that keeps a promise; dv: what fills up behind the written arguments -/
structure Fn (P : Program) (w : World) (K : Fr) (mg : Str → Option Value) (base : Heap) (x : Str) (k : Nat) (ps : List Str) (dv : List Val) (fs : FS) : Prop where
  ex : ∃ (f : Addr) (fd : FuncData) (dvs : List V) (ds : List Value), FnOk P w K mg base (L2.CX P w) k f fd ps (lSp K fs) ∧ mg x = some (.ref f) ∧ PySem.W.keepIn K (.ref f) = true ∧ Vals dvs ds ∧ (∀ S, Rels K S dv dvs) ∧ Binds K fd ps ds
/-- a method of the class at C -/
structure Mt (P : Program) (w : World) (K : Fr) (mg : Str → Option Value) (base : Heap) (C : Addr) (m : Str) (k : Nat) (ps : List Str) (dv : List Val) (fs : FS) : Prop where
  ex : ∃ (f : Addr) (fd : FuncData) (dvs : List V) (ds : List Value), FnOk P w K mg base (L2.CX P w) k f fd ps (lSp K fs) ∧ Meth K C m f ∧ Vals dvs ds ∧ (∀ S, Rels K S dv dvs) ∧ Binds K fd ps ds
/-- a class that is made -/
structure Ck (P : Program) (w : World) (K : Fr) (mg : Str → Option Value) (base : Heap) (x : Str) (C : Addr) (k : Nat) (ps : List Str) (dv : List Val) (fs : FS) : Prop where
  ex : ∃ (f : Addr) (fd : FuncData) (dvs : List V) (ds : List Value), FnOk P w K mg base (L2.CX P w) k f fd ps (lSp K fs) ∧ mg x = some (.ref C) ∧ Mk K C f ∧ Vals dvs ds ∧ (∀ S, Rels K S dv dvs) ∧ Binds K fd ps ds
section
variable {X : Cx} {W : WX} {pos : Pos} {k : Nat} {x m : Str} {ps : List Str} {dv : List Val} {fs : FS} {C : Addr} {p apos : Pos} {e o : Expr} {es : List Expr} {t : WA} {ta : WE}
def wCall (fs : FS) (dv : List Val) (t : WA) : WE := fun ρ h E Q => t ρ h E fun vs h1 => fs.sp (vs ++ dv) h1 E Q
theorem lsp_of {K : Fr} {W : WX} {S F H : Hp} {h : Hh} {σ : L2.St} {vs : List Val} {ws : List V} {E' : XQ} {Q' : KQ} {Q : VK} (r : R K S F H h) (x : Rels K S vs ws) (q : fs.sp vs h E' Q') (lq : LQ K S F Q' Q) (lx : LX K S F E' W σ) : lSp K fs ws H Q (L2.WE W σ) :=
  ⟨S, F, vs, h, E', Q', r, x, q, lq, lx⟩
theorem zcall (tk : Takes X W) (G : Fn X.prog X.w X.K X.mg X.base x k ps dv fs) (hr : Room k X.A) (hg : Gl X x) (ha : ZA X W (e :: es) t) (hdb : (x == ("__debug__" : Str)) = false := by decide)
    (he : starEach (e :: es) X.env = (false, eval e X.env) :: starEach es X.env := by rfl) (hpl : (backTo pos (starEach es X.env)).any (·.1) = false := by rfl) : ZE X W (.Call (.Name x p) (e :: es) [] pos) (wCall fs dv t) := by
  obtain ⟨f, fd, dvs, ds, F, hm, hk, hd, hdv, hb⟩ := G.ex
  exact ⟨pe_imp (pe_callSD F hr hg hm hk hb hd (fun σ => passAt tk σ) ha.pa hdb he hpl) fun σ H Q ⟨S, F, ρ, h, E', Q', r, rl, q, lq, lx⟩ =>
    ⟨S, F, ρ, h, E', _, r, rl, q, fun vs h1 S1 ws H1 q1 s1 r1 x1 => lsp_of r1 (x1.app (hdv S1)) q1 (lq.mono s1) (lx.mono s1), lx⟩⟩
theorem zcall0 (tk : Takes X W) (G : Fn X.prog X.w X.K X.mg X.base x k ps dv fs) (hr : Room k X.A) (hg : Gl X x) (hdb : (x == ("__debug__" : Str)) = false := by decide) : ZE X W (.Call (.Name x p) [] [] pos) (wCall fs dv wNil) := by
  obtain ⟨f, fd, dvs, ds, F, hm, hk, hd, hdv, hb⟩ := G.ex
  refine ⟨⟨fun pins s σ H Q I h => ?_⟩⟩
  refine wpAny_Call_Name_kw (ld_glob I hg hm ?_ hdb)
  obtain ⟨S, Fr, ρ, h, E', Q', r, rl, q, lq, lx⟩ := h
  exact PySem.W.callWith_K0 I.kIn hk (run_fnSD (us := []) (vs := []) (E := L2.WE W) F hr hb hd (passAt tk σ) I .nil (lsp_of r (hdv S) q lq lx))
/-- o.m(e, ..) -/
def wMeth (C : Addr) (m : Str) (fs : FS) (dv : List Val) (ta : WE) (t : WA) : WE := fun ρ h E Q => ta ρ h E fun x h1 => ∃ fl, Ins h1 x C fl ∧ fl.lookup m = none ∧ t ρ h1 E fun vs h2 => fs.sp (x :: (vs ++ dv)) h2 E Q
theorem zmeth {pl : Sem Bool} (tk : Takes X W) (c : Cls X.K C) (G : Mt X.prog X.w X.K X.mg X.base C m k ps dv fs) (hr : Room k X.A) (ho : ZE X W o ta) (ha : ZA X W (e :: es) t)
    (hst : starEach (e :: es) X.env = (false, eval e X.env) :: starEach es X.env := by rfl) (hpl : (backTo pos (starEach es X.env)).any (·.1) = false := by rfl)
    (ht : eval (.Call (.Attribute o m apos) (e :: es) [] pos) X.env = (do
      let ov ← eval o X.env
      standAt apos.atName
      let (f, first) ← holding [ov] (getMethod ov m pl)
      callWith pos f first (backTo pos (starEach (e :: es) X.env)) (backToKw pos (keywordEach [] X.env))) := by rfl) : ZE X W (.Call (.Attribute o m apos) (e :: es) [] pos) (wMeth C m fs dv ta t) := by
  obtain ⟨f, fd, dvs, ds, F, hm, hd, hdv, hb⟩ := G.ex
  refine ⟨⟨fun pins s σ H Q I h => ?_⟩⟩
  obtain ⟨S, Fr, ρ, h, E', Q', r, rl, q, lq, lx⟩ := h
  refine PySem.W.methodCall_KW (pl := pl) (thn (ho.pe.run pins s σ H (fun v H1 => ∃ S1 h1 x, Sub S S1 ∧ R X.K S1 Fr H1 h1 ∧ Rel X.K S1 x v ∧ _) I ⟨S, Fr, ρ, h, E', _, r, rl, q, fun y h1 S1 v H1 q1 s1 r1 x1 => ⟨S1, h1, y, s1, r1, x1, q1⟩, lx⟩) fun u s1 ⟨y, H1, I1, rx, S1, h1, x1, ss1, r1, rx1, fl, q1, q2, q3⟩ => ?_) ht
  obtain ⟨a, dx, gs, e1, e2, e3⟩ := q1.l r1 rx1
  subst e1
  obtain rfl : u = Value.ref a := rx
  refine getmeth_ok I1 e2 c hm (e3.lookup_none q2) ?_
  refine PySem.W.callWith_K (first := [.ref a]) (h₀ := X.base) I.ok.mod.kin hm.kp (thn (ha.pa.run pos pins s1 σ H1 (fun ws H2 => lSp X.K fs (.ref a :: (ws ++ dvs)) H2 Q (L2.WE W σ)) I1 ?_) fun us s2 ⟨vs, H2, I2, rv, q4⟩ => ⟨I2.kIn, ?_⟩) hst hpl
  · exact ⟨S1, Fr, ρ, h1, E', _, r1, rl.mono ss1, q3, fun vs h2 S2 ws H2 q4 s2 r2 x2 => lsp_of r2 (rels_cons.mpr ⟨_, _, rfl, Rel.mono s2 _ _ rx1, x2.app (hdv S2)⟩) q4 ((lq.mono ss1).mono s2) ((lx.mono ss1).mono s2), lx.mono ss1⟩
  · exact run_fnSD (us := .ref a :: us) (vs := .ref a :: vs) (E := L2.WE W) F hr hb hd (passAt tk σ) I2 (.cons rfl rv) q4
theorem zmeth0 {pl : Sem Bool} (tk : Takes X W) (c : Cls X.K C) (G : Mt X.prog X.w X.K X.mg X.base C m k ps dv fs) (hr : Room k X.A) (ho : ZE X W o ta)
    (ht : eval (.Call (.Attribute o m apos) [] [] pos) X.env = (do
      let ov ← eval o X.env
      standAt apos.atName
      let (f, first) ← holding [ov] (getMethod ov m pl)
      callWith pos f first (backTo pos (starEach [] X.env)) (backToKw pos (keywordEach [] X.env))) := by rfl) : ZE X W (.Call (.Attribute o m apos) [] [] pos) (wMeth C m fs dv ta wNil) := by
  obtain ⟨f, fd, dvs, ds, F, hm, hd, hdv, hb⟩ := G.ex
  refine ⟨⟨fun pins s σ H Q I h => ?_⟩⟩
  obtain ⟨S, Fr, ρ, h, E', Q', r, rl, q, lq, lx⟩ := h
  refine PySem.W.methodCall_KW (pl := pl) (thn (ho.pe.run pins s σ H (fun v H1 => ∃ S1 h1 x, Sub S S1 ∧ R X.K S1 Fr H1 h1 ∧ Rel X.K S1 x v ∧ _) I ⟨S, Fr, ρ, h, E', _, r, rl, q, fun y h1 S1 v H1 q1 s1 r1 x1 => ⟨S1, h1, y, s1, r1, x1, q1⟩, lx⟩) fun u s1 ⟨y, H1, I1, rx, S1, h1, x1, ss1, r1, rx1, fl, q1, q2, q3⟩ => ?_) ht
  obtain ⟨a, dx, gs, e1, e2, e3⟩ := q1.l r1 rx1
  subst e1
  obtain rfl : u = Value.ref a := rx
  refine getmeth_ok I1 e2 c hm (e3.lookup_none q2) ?_
  exact PySem.W.callWith_K0 (first := [.ref a]) I1.kIn hm.kp (run_fnSD (us := [.ref a]) (vs := [.ref a]) (E := L2.WE W) F hr hb hd (passAt tk σ) I1 (.cons rfl .nil) (lsp_of r1 (rels_cons.mpr ⟨_, _, rfl, rx1, hdv S1⟩) q3 (lq.mono ss1) (lx.mono ss1)))
/-- C(e, ..) -/
def MkEnd (C a : Addr) (h : Hh) (Q : KQ) : Prop := Q (.ref a) h ∨ ∃ fs, h a = some (.ins C fs) ∧ Q (.obj C fs) (hdel h a)
def wMake (C : Addr) (fs : FS) (dv : List Val) (t : WA) : WE := fun ρ h E Q => t ρ h E fun vs h1 => ∀ a, h1 a = none → fs.sp (.ref a :: (vs ++ dv)) (hup h1 a (.ins C [])) E (fun v h2 => v = .non ∧ MkEnd C a h2 Q)
/-- a new object that nobody speaks of -/
theorem R.extra {K : Fr} {S F H : Hp} {h : Hh} {q : Addr} {u : HO} (r : R K S F H h) (n : H q = none) : R K S F (upd H q u) h := by
  have nS : S q = none := r.sub.free n
  refine ⟨fun a o e => ?_, fun a o e => ?_, fun a o e => ?_⟩
  · rw [upd_ne (ne_of_none e nS)]; exact r.sub _ _ e
  · obtain ⟨h1, h2, h3⟩ := r.frm a o e
    exact ⟨by rw [upd_ne (ne_of_none h1 n)]; exact h1, h2, h3⟩
  · obtain ⟨h1, v, h2, h3⟩ := r.own a o e
    exact ⟨h1, v, by rw [upd_ne (ne_of_none h2 n)]; exact h2, h3⟩
theorem run_makeSD {CX : CXT} {f C : Addr} {fd : FuncData} {ps : List Str} {sp : L2.Sp} {dvs : List V} {ds : List Value} {E : L2.St → XK} {k : Nat} {pins : List (Addr × Obj)} {σ : L2.St} {H : Hp} {s : Shared} {Q : VK} {us : List Value} {vs : List V} (M : Mk X.K C f) (F : FnOk X.prog X.w X.K X.mg X.base CX k f fd ps sp) (hr : Room (k + 1) X.A) (hb : Binds X.K fd ps ds) (hd : Vals dvs ds)
    (hx : PassesAt CX X σ (E σ)) (I : L2.Inv X pins σ H s) (r : Vals vs us)
    (h : ∀ x dx, H x = none → H dx = none → dx ≠ x → sp (.ref x :: (vs ++ dvs)) (upd (upd H dx (.own x)) x (.ins C dx [])) (fun v H2 => v = .non ∧ Q (.ref x) H2) (E σ)) :
    wpAny (model X.prog X.w) X.A (call (.ref C) us) (EP X pins σ Q) X.xe s := by
  have hq := h (s.heap.objs.size + 1) s.heap.objs.size (I.hok.fresh (Nat.le_succ _)) (I.hok.fresh (Nat.le_refl _)) (Nat.ne_of_lt (Nat.lt_succ_self _))
  have I2 := L2.Inv.made (C := C) I
  have r2 : Vals (V.ref (s.heap.objs.size + 1) :: (vs ++ dvs)) (Value.ref (s.heap.objs.size + 1) :: (us ++ ds)) := .cons rfl (r.append hd)
  have hl : (Value.ref (s.heap.objs.size + 1) :: us ++ ds).length = ps.length := by
    have e := r2.length
    rw [F.len _ _ _ _ hq] at e
    exact e.symm
  refine wpAny_call (make_map (f := f) I.kIn M.makes M.init (beq_iff_eq.mp M.fn) (codeAny_mono (F.run _ X.stack _ _ ⟨Value.ref (s.heap.objs.size + 1) :: us, []⟩ (Value.ref (s.heap.objs.size + 1) :: (us ++ ds)) _ _ (E σ) (hr.make C us [])
    (I2.env0.make C us []) (hb _ (Value.ref (s.heap.objs.size + 1) :: us) I2.kIn hl) r2 hq) fun r s' hq' => ?_))
  cases r with
  | error e => exact hx pins _ _ e s' I2 hq'
  | ok fl =>
    cases fl with
    | ret u =>
      obtain ⟨v, H', I3, rv, ev, q3⟩ := I2.after hq'
      subst ev
      exact ⟨rv, ⟨V.ref (s.heap.objs.size + 1), H', I3, rfl, q3⟩⟩
    | next => exact False.elim hq'
    | brk => exact False.elim hq'
    | cont => exact False.elim hq'
theorem mk_sp {K : Fr} {W : WX} {S F H : Hp} {h : Hh} {σ : L2.St} {vs : List Val} {ws : List V} {E' : XQ} {Q' : KQ} {Q : VK} (r : R K S F H h) (x : Rels K S vs ws) (q : ∀ a, h a = none → fs.sp (.ref a :: vs) (hup h a (.ins C [])) E' (fun v h2 => v = .non ∧ MkEnd C a h2 Q')) (lq : LQ K S F Q' Q) (lx : LX K S F E' W σ) :
    ∀ x dx, H x = none → H dx = none → dx ≠ x → lSp K fs (.ref x :: ws) (upd (upd H dx (.own x)) x (.ins C dx [])) (fun v H2 => v = .non ∧ Q (.ref x) H2) (L2.WE W σ) := fun a dx n nd ne => by
  have n2 : upd H dx (.own a) a = none := by rw [upd_ne ne.symm]; exact n
  have r2 : R K S F (upd (upd H dx (.own a)) a (.ins C dx [])) (hup h a (.ins C [])) := (r.extra (u := .own a) nd).owned n2 ⟨dx, [], rfl, relf_nil.mpr rfl⟩
  refine ⟨S, F, .ref a :: vs, _, E', _, r2, rels_cons.mpr ⟨_, _, rfl, rel_ref.mpr rfl, x⟩, q a (r.fresh n), fun v h' S' w H' q1 s1 r1 x1 => ?_, lx⟩
  obtain ⟨rfl, q1⟩ := q1
  refine ⟨rel_non.mp x1, ?_⟩
  rcases q1 with q1 | ⟨fl, e1, q1⟩
  · exact lq _ _ _ _ _ q1 s1 r1 (rel_ref.mpr rfl)
  · obtain ⟨u, x2, r3, s3⟩ := r1.freeze e1
    obtain ⟨dy, gs, rfl, x3⟩ := x2
    exact lq _ _ _ _ _ q1 (s1.trans s3) r3 (rel_obj.mpr ⟨a, dy, gs, rfl, upd_same, RelF.mono s3 _ _ x3⟩)
theorem zmake (tk : Takes X W) (G : Ck X.prog X.w X.K X.mg X.base x C k ps dv fs) (hr : Room (k + 1) X.A) (hg : Gl X x) (ha : ZA X W (e :: es) t) (hdb : (x == ("__debug__" : Str)) = false := by decide)
    (he : starEach (e :: es) X.env = (false, eval e X.env) :: starEach es X.env := by rfl) (hpl : (backTo pos (starEach es X.env)).any (·.1) = false := by rfl) : ZE X W (.Call (.Name x p) (e :: es) [] pos) (wMake C fs dv t) := by
  obtain ⟨f, fd, dvs, ds, F, hm, M, hd, hdv, hb⟩ := G.ex
  refine ⟨⟨fun pins s σ H Q I h => ?_⟩⟩
  obtain ⟨S, Fr, ρ, h, E', Q', r, rl, q, lq, lx⟩ := h
  refine wpAny_Call_Name_kw (ld_glob I hg hm ?_ hdb)
  refine PySem.W.callWith_K (h₀ := X.base) I.ok.mod.kin M.kp (thn (ha.pa.run pos pins s σ H (fun ws H2 => ∃ S1 h1 vs, Sub S S1 ∧ R X.K S1 Fr H2 h1 ∧ Rels X.K S1 vs ws ∧ _) I ⟨S, Fr, ρ, h, E', _, r, rl, q, fun vs h1 S1 ws H1 q1 s1 r1 x1 => ⟨S1, h1, vs, s1, r1, x1, q1⟩, lx⟩) fun us s1 ⟨ws, H1, I1, rv, S1, h1, vs, s1, r1, x1, q1⟩ => ⟨I1.kIn, ?_⟩) he hpl
  exact run_makeSD (E := L2.WE W) M F hr hb hd (passAt tk σ) I1 rv (mk_sp r1 (x1.app (hdv S1)) q1 (lq.mono s1) (lx.mono s1))
theorem zmake0 (tk : Takes X W) (G : Ck X.prog X.w X.K X.mg X.base x C k ps dv fs) (hr : Room (k + 1) X.A) (hg : Gl X x) (hdb : (x == ("__debug__" : Str)) = false := by decide) : ZE X W (.Call (.Name x p) [] [] pos) (wMake C fs dv wNil) := by
  obtain ⟨f, fd, dvs, ds, F, hm, M, hd, hdv, hb⟩ := G.ex
  refine ⟨⟨fun pins s σ H Q I h => ?_⟩⟩
  obtain ⟨S, Fr, ρ, h, E', Q', r, rl, q, lq, lx⟩ := h
  refine wpAny_Call_Name_kw (ld_glob I hg hm ?_ hdb)
  exact PySem.W.callWith_K0 I.kIn M.kp (run_makeSD (E := L2.WE W) (us := []) (vs := []) M F hr hb hd (passAt tk σ) I .nil (mk_sp r (hdv S) q lq lx))
end

/-! ### a def by its body -/
/-- a value and a heap may be told otherwise -/
def ShV (K : Fr) (v : Val) (h : Hh) (v2 : Val) (h2 : Hh) : Prop := ∀ S F H w, R K S F H h → Rel K S v w → ∃ S2, Sub S S2 ∧ R K S2 F H h2 ∧ Rel K S2 v2 w
def Good (K : Fr) (Q : KQ) : Prop := ∀ v h v2 h2, ShV K v h v2 h2 → Q v2 h2 → Q v h
def startV (N : List Str) (vs : List Val) : Ev := vs.map some ++ List.replicate (N.length - vs.length) none
theorem rls_start {K : Fr} {S : Hp} {N : List Str} {vs : List Val} {ws : List V} (x : Rels K S vs ws) : Rls K S (startV N vs) (L2.start N ws) := by
  unfold startV L2.start
  have hl := x.length
  refine ⟨by simp [hl], fun i v e => ?_⟩
  by_cases hi : i < vs.length
  · rw [List.getElem?_append_left (by simpa using hi), List.getElem?_map] at e
    cases q : vs[i]? with
    | none => rw [q] at e; cases e
    | some y =>
      rw [q] at e; cases e
      obtain ⟨w, e2, x2⟩ := x.get q
      exact ⟨w, by rw [List.getElem?_append_left (by simpa [← hl] using hi), List.getElem?_map, e2]; rfl, x2⟩
  · rw [List.getElem?_append_right (by simpa using hi)] at e
    rw [List.getElem?_replicate] at e
    split at e <;> cases e
section
variable {P : Program} {w : World} {K : Fr} {mg : Str → Option Value} {base : Heap} {x qual : Str} {params : Arguments} {body : List Stmt} {scope : Scope} {dvs : List V} {kws : List (Str × V)} {f : Addr} {fd : FuncData} {N ps : List Str} {k : Nat} {fs : FS}
abbrev Cxd (P : Program) (w : World) (K : Fr) (mg : Str → Option Value) (base : Heap) (N : List Str) (qual : Str) (scope : Scope) (f : Addr) (cdv : Value) (A : Around) (outer : List Env) (s : Shared) (H : Hp) (E : XK) : Cx := cxOf (L2.CX P w) P w K mg base N qual scope f cdv A outer s H E
abbrev Wd (E : XK) : WX := fun cls d _ H => E cls d H
theorem tkd {N : List Str} {qual : Str} {scope : Scope} {cdv : Value} {A : Around} {outer : List Env} {s : Shared} {H : Hp} {E : XK} : Takes (Cxd P w K mg base N qual scope f cdv A outer s H E) (Wd E) := takes_of rfl rfl rfl rfl
theorem psd {N : List Str} {qual : Str} {scope : Scope} {cdv : Value} {A : Around} {outer : List Env} {s : Shared} {H : Hp} {E : XK} : PassesOwn (model (Cxd P w K mg base N qual scope f cdv A outer s H E).prog (Cxd P w K mg base N qual scope f cdv A outer s H E).w) (Cxd P w K mg base N qual scope f cdv A outer s H E).A (Cxd P w K mg base N qual scope f cdv A outer s H E).env (Cxd P w K mg base N qual scope f cdv A outer s H E).xe := passes_of rfl
theorem zdef (F : FunD K x qual params body scope dvs kws f fd) (Sc : FnScope N ps scope) (len : ∀ p vs h, fs.pre p vs h → vs.length = ps.length)
    (hb : ∀ (cdv : Value) (A : Around) (outer : List Env) (s : Shared) (H : Hp) (E : XK), Room k (A.deeper (envOfC qual scope s.heap.objs.size f cdv)) →
      ∃ t, ZB (Cxd P w K mg base N qual scope f cdv A outer s H E) (Wd E) body t ∧ ∀ p vs h Q (X : XQ), Good K Q → fs.pre p vs h → (∀ v h', fs.post p h v h' → Q v h') → (∀ C v h', fs.xpost p h C v h' → X C v h') →
        t (fun _ h' => Q .non h') Q (fun _ _ => False) (fun _ _ => False) (fun C v _ h' => X C v h') (startV N vs) h) : FnOk P w K mg base (L2.CX P w) (k + 1) f fd ps (lSp K fs) := by
  refine F.ok Sc (fun ws H Q E ⟨S, Fr, vs, h, E', Q', r, rx, ⟨p, q, _⟩, _⟩ => rx.length.symm.trans (len _ _ _ q)) fun cdv A outer s H ws Q E hr hsp => ?_
  obtain ⟨t, ht, hq⟩ := hb cdv A outer s H E hr
  refine ⟨_, ht.pss, ?_⟩
  obtain ⟨S, Fr, vs, h, E', Q', r, rx, ⟨p, q, qp, qx⟩, lq, lx⟩ := hsp
  have gd : Good K (fun v h' => ∀ S' w H', Sub S S' → R K S' Fr H' h' → Rel K S' v w → Q w H') := fun v h v2 h2 sh q2 S' w H' s' r' x' => by
    obtain ⟨S2, s2, r2, x2⟩ := sh S' Fr H' w r' x'
    exact q2 S2 w H' (s'.trans s2) r2 x2
  have q0 := hq p vs h _ (fun C v h' => ∀ S' w d H', Sub S S' → R K S' Fr H' h' → Rel K S' v w → S' d = some (.xd [("what", w)]) → E (.ref C) (some d) H') gd q
    (fun v h' z S' w H' s' r' x' => lq _ _ _ _ _ (qp v h' z) s' r' x') (fun C v h' z S' w d H' s' r' x' e => lx _ _ _ _ _ _ _ (qx C v h' z) s' r' x' e)
  exact ⟨S, Fr, _, h, _, _, _, _, _, r, rls_start rx, q0, fun ρ h' S' σ H' z s' r' _ => z S' .non H' s' r' (rel_non.mpr rfl), fun v h' S' w H' z s' r' x' => z S' w H' s' r' x', fun _ _ _ _ _ z => z.elim, fun _ _ _ _ _ z => z.elim,
    fun C v ρ h' S' w d σ H' z s' r' _ x' e => z S' w d H' s' r' x' e⟩
/-- the law's own def -/
abbrev Cxl (P : Program) (w : World) (K : Fr) (mg : Str → Option Value) (base : Heap) (N : List Str) (qual : Str) (scope : Scope) (f : Addr) (cdv : Value) (A : Around) (outer : List Env) (s : Shared) (H : Hp) (E : XK) : Cx := cxOf CX0 P w K mg base N qual scope f cdv A outer s H E
theorem tkl {N : List Str} {qual : Str} {scope : Scope} {cdv : Value} {A : Around} {outer : List Env} {s : Shared} {H : Hp} {E : XK} : Takes (Cxl P w K mg base N qual scope f cdv A outer s H E) WF := takes0
theorem psl {N : List Str} {qual : Str} {scope : Scope} {cdv : Value} {A : Around} {outer : List Env} {s : Shared} {H : Hp} {E : XK} : PassesOwn (model (Cxl P w K mg base N qual scope f cdv A outer s H E).prog (Cxl P w K mg base N qual scope f cdv A outer s H E).w) (Cxl P w K mg base N qual scope f cdv A outer s H E).A (Cxl P w K mg base N qual scope f cdv A outer s H E).env (Cxl P w K mg base N qual scope f cdv A outer s H E).xe := passes_of (K := fun _ _ => False) (E₁ := fun _ _ => False) rfl
theorem zlaw {pre : List Val → Hh → Prop} (F : FunD K x qual params body scope dvs kws f fd) (Sc : FnScope N ps scope) (len : ∀ vs h, pre vs h → vs.length = ps.length)
    (hb : ∀ (cdv : Value) (A : Around) (outer : List Env) (s : Shared) (H : Hp) (E : XK), Room k (A.deeper (envOfC qual scope s.heap.objs.size f cdv)) →
      ∃ t, ZB (Cxl P w K mg base N qual scope f cdv A outer s H E) WF body t ∧ ∀ vs h Q, pre vs h → (∀ h', Q (.bl true) h') → t (fun _ h' => Q .non h') Q (fun _ _ => False) (fun _ _ => False) (fun _ _ _ _ => False) (startV N vs) h) :
    FnOk P w K mg base CX0 (k + 1) f fd ps (lSp K ⟨Unit, fun _ => pre, fun _ _ v _ => v = .bl true, fun _ _ _ _ _ => False⟩) := by
  refine F.ok Sc (fun ws H Q E ⟨S, Fr, vs, h, E', Q', r, rx, ⟨p, q, _⟩, _⟩ => rx.length.symm.trans (len _ _ q)) fun cdv A outer s H ws Q E hr hsp => ?_
  obtain ⟨t, ht, hq⟩ := hb cdv A outer s H E hr
  refine ⟨_, ht.pss, ?_⟩
  obtain ⟨S, Fr, vs, h, E', Q', r, rx, ⟨p, q, qp, qx⟩, lq, lx⟩ := hsp
  have q0 := hq vs h (fun v h' => ∀ S' w H', Sub S S' → R K S' Fr H' h' → Rel K S' v w → Q w H') q (fun h' S' w H' s' r' x' => lq _ _ _ _ _ (qp _ h' rfl) s' r' x')
  exact ⟨S, Fr, _, h, _, _, _, _, _, r, rls_start rx, q0, fun ρ h' S' σ H' z s' r' _ => z S' .non H' s' r' (rel_non.mpr rfl), fun v h' S' w H' z s' r' x' => z S' w H' s' r' x', fun _ _ _ _ _ z => z.elim, fun _ _ _ _ _ z => z.elim,
    fun C v ρ h' S' w d σ H' z => z.elim⟩
end
/-- what the law is handed -/
def preL : List Val → Hh → Prop := fun vs h => ∃ ns : List Int, vs = [.scr (ns.map Val.int)] ∧ ns.length ≤ 63 ∧ h = fun _ => none
/-- every object of the layer's heap, at the law's entry, is never changed again -/
theorem r_entry {K : Fr} {H : Hp} : R K H (fun _ => none) H (fun _ => none) := ⟨Sub.refl H, fun _ _ q => (nomatch q), fun _ _ q => (nomatch q)⟩
theorem law_sp {K : Fr} {H : Hp} {a : Addr} {ns : List Int} (hl : ns.length ≤ 63) (hS : SqL K H a (ns.map V.int)) : lSp K ⟨Unit, fun _ => preL, fun _ _ v _ => v = .bl true, fun _ _ _ _ _ => False⟩ [.ref a] H (fun v _ => v = .bl true) fun _ _ _ => False :=
  ⟨H, fun _ => none, [.scr (ns.map Val.int)], fun _ => none, fun _ _ _ => False, fun v _ => v = .bl true, r_entry, Rels.one (rel_scr.mpr ⟨a, _, rfl, hS, Rels.ints.mpr rfl⟩), ⟨(), ⟨ns, rfl, hl, rfl⟩, fun _ _ z => z, fun _ _ _ z => z⟩,
    fun v h' S' w H' z _ _ x => by subst z; exact rel_bl.mp x, fun _ _ _ _ _ _ _ z => z.elim⟩
/-! Z8 -/
/-! more rules: one subscript for lists, tuples, texts; texts; chains as tests; minus; str, join, f-strings; list + list -/
section
variable {X : Cx} {W : WX} {pos : Pos}
inductive IxA (h : Hh) : Val → Int → Val → Prop
  | lst {x xs i v} : Seqq h x xs → L2.atI xs i = some v → IxA h x i v
  | tup {xs i v} : L2.atI xs i = some v → IxA h (.tup xs) i v
  | str {z : Str} {i c} : z.length ≤ sizeLine → L2.atI z.cps.toList i = some c → IxA h (.str z) i (.str ⟨#[c]⟩)
def wIx : W2 := fun x y h Q => ∃ i v, y = .int i ∧ IxA h x i v ∧ Q v h
theorem s_ix {K : Fr} : Snd2 K wIx (rIx K) := fun S F H h x y v w Q' Q r rx ry q lq => by
  obtain ⟨i, v, rfl, q1, q⟩ := q
  cases q1 with
  | lst h1 h3 => exact .inl (s_ixL S F H h _ _ _ _ _ _ r rx ry ⟨_, _, _, h1, rfl, h3, q⟩ lq)
  | tup h3 => exact .inr (.inl (s_ixT S F H h _ _ _ _ _ _ r rx ry ⟨_, _, _, rfl, rfl, h3, q⟩ lq))
  | str h1 h3 => exact .inr (.inr (s_ixS S F H h _ _ _ _ _ _ r rx ry ⟨_, _, _, rfl, rfl, h1, h3, q⟩ lq))
def wUn (ta : WE) : WE := fun ρ h E Q => ta ρ h E fun x h1 => ∃ i, x = .int i ∧ Q (.int (-i)) h1
theorem zneg {a : Expr} {ta : WE} (ha : ZE X W a ta) : ZE X W (.UnaryOp .USub a pos) (wUn ta) :=
  ⟨pe_imp (pe_un un_neg ha.pe) fun σ H Q ⟨S, F, ρ, h, E', Q', r, rl, q, lq, lx⟩ =>
    ⟨S, F, ρ, h, E', _, r, rl, q, fun x h1 S1 v H1 q1 s1 r1 x1 => by
      obtain ⟨i, rfl, q1⟩ := q1
      exact ⟨i, rel_int.mp x1, lq _ _ _ _ _ q1 s1 r1 (rel_int.mpr rfl)⟩, lx⟩⟩
/-- a < b < c as a test -/
theorem ztchain {a b c : Expr} {ta tb tc : WE} {op op' : CmpOp} {r r' : R2} {s s' : W2} (o : OpR X (compareOp op) r) (o' : OpR X (compareOp op') r') (q : Snd2 X.K s r) (q' : Snd2 X.K s' r') (ha : ZE X W a ta) (hb : ZE X W b tb) (hc : ZE X W c tc)
    (hl : lastMarks [op, op'] [b, c] = false := by rfl) : ZT X W (.Compare a [op, op'] [b, c] pos) (wTv (wChain s s' ta tb tc)) :=
  ⟨pt_imp (pt_chain o o' ha.pe hb.pe hc.pe hl) fun σ H Q ⟨S, F, ρ, h, E', Q', r0, rl, p, lq, lx⟩ =>
    ⟨S, F, ρ, h, E', _, r0, rl, p, fun x h1 S1 v H1 q1 s1 r1 x1 => ⟨S1, F, ρ, h1, E', _, r1, rl.mono s1, q1, fun y h2 S2 w H2 q2 s2 r2 x2 =>
      q S2 F H2 h2 x y v w _ _ r2 (Rel.mono s2 _ _ x1) x2 q2 fun z h3 S3 u H3 q3 s3 r3 x3 => by
        obtain ⟨k, rfl, q3⟩ := q3
        refine ⟨k, rel_bl.mp x3, ?_⟩
        cases k with
        | true => exact iteT ⟨S3, F, ρ, h3, E', _, r3, ((rl.mono s1).mono s2).mono s3, zchain.iteT' q3, fun z4 h4 S4 w4 H4 q4 s4 r4 x4 =>
            q' S4 F H4 h4 y z4 w w4 _ _ r4 (Rel.mono (s3.trans s4) _ _ x2) x4 q4 fun z5 h5 S5 u5 H5 q5 s5 r5 x5 => by
              obtain ⟨k5, rfl, q5⟩ := q5
              exact ⟨k5, rel_bl.mp x5, lq _ _ _ _ q5 ((((s1.trans s2).trans s3).trans s4).trans s5) r5⟩, ((lx.mono s1).mono s2).mono s3⟩
        | false =>
          obtain ⟨k5, e5, q5⟩ := zchain.iteF' q3
          cases e5
          exact iteF ⟨false, rfl, lq _ _ _ _ q5 ((s1.trans s2).trans s3) r3⟩, lx.mono s1⟩, lx⟩⟩
/-- texts + -/
def wAddS : W2 := fun x y h Q => ∃ i j : Str, x = .str i ∧ y = .str j ∧ i.length + j.length ≤ sizeLine ∧ Q (.str (i ++ j)) h
/-- list + list: both stand tracked -/
inductive LstT (h : Hh) : Val → List Val → Prop
  | lst (xs) : LstT h (.lst xs) xs
  | ref {a xs} : h a = some (.lst xs) → LstT h (.ref a) xs
theorem LstT.l {K : Fr} {S F H : Hp} {h : Hh} {x : Val} {xs : List Val} {v : V} (q : LstT h x xs) (r : R K S F H h) (x : Rel K S x v) : ∃ a ws, v = .ref a ∧ H a = some (.lst ws) ∧ Rels K S xs ws := by
  cases q with
  | lst => rw [rel_lst] at x; obtain ⟨a, ws, e, h1, h2⟩ := x; exact ⟨a, ws, e, r.sub _ _ h1, h2⟩
  | ref e =>
    rw [rel_ref] at x
    obtain ⟨_, u, h1, ws, rfl, h2⟩ := r.own _ _ e
    exact ⟨_, ws, x, h1, h2⟩
def wCat : W2 := fun x y h Q => ∃ xs ys, LstT h x xs ∧ LstT h y ys ∧ small (xs.length + ys.length) ∧ NewL (xs ++ ys) h Q
theorem s_cat {K : Fr} : Snd2 K wCat rCat := fun S F H h x y v w Q' Q r rx ry q lq => by
  obtain ⟨xs, ys, h1, h2, hz, q⟩ := q
  obtain ⟨a, ws, rfl, g1, g2⟩ := h1.l r rx
  obtain ⟨b, us, rfl, g3, g4⟩ := h2.l r ry
  exact ⟨a, b, ws, us, rfl, rfl, g1, g3, by rw [← g2.length, ← g4.length]; exact hz.line, fun p n => newl r (g2.app g4) q lq n⟩
theorem s_addS {K : Fr} : Snd2 K wAddS (fun x y H Q => ∃ i j, x = V.str i ∧ y = V.str j ∧ Str.length i + Str.length j ≤ sizeLine ∧ Q (V.str (i ++ j)) H) := fun S F H h x y v w Q' Q r rx ry q lq => by
  obtain ⟨i, j, rfl, rfl, hz, q⟩ := q
  exact ⟨i, j, rel_str.mp rx, rel_str.mp ry, hz, lq _ _ S _ _ q (Sub.refl S) r (rel_str.mpr rfl)⟩
/-- str(n) -/
def cStr : WC := fun vs h Q => ∃ i : Int, vs = [.int i] ∧ i.natAbs.log2 < 1920 ∧ Q (.str (toString i)) h
theorem s_str {K : Fr} : SndC K cStr (fun xs H Q => ∃ i : Int, xs = [.int i] ∧ i.natAbs.log2 < 1920 ∧ Q (.str (toString i)) H) := fun S F H h xs vs Q' Q r rx q lq => by
  obtain ⟨i, rfl, hz, q⟩ := q
  obtain ⟨w, rfl, x1⟩ := rels_1 rx
  rw [rel_int] at x1; subst x1
  exact ⟨i, rfl, hz, lq _ _ S _ _ q (Sub.refl S) r (rel_str.mpr rfl)⟩
/-- sep.join(texts) -/
def mJoin : WM := fun x vs h Q => ∃ (a : Str) (l : Val) (ys : List Str), x = .str a ∧ vs = [l] ∧ SeqT h l (ys.map Val.str) ∧ (ys.map (·.length)).sum + ys.length * a.length ≤ 16777216 ∧ Q (.str (Txt.join a ys)) h
theorem s_join {K : Fr} : SndM K mJoin (fun x xs H Q => ∃ a p, ∃ ys : List Str, x = V.str a ∧ xs = [V.ref p] ∧ (SqL K H p (ys.map V.str) ∨ SqT K H p (ys.map V.str)) ∧ (ys.map (·.length)).sum + ys.length * a.length ≤ 16777216 ∧ Q (V.str (Txt.join a ys)) H) :=
  fun S F H h x v xs vs Q' Q r rx rxs q lq => by
  obtain ⟨a, l, ys, rfl, rfl, h1, hz, q⟩ := q
  obtain ⟨w, rfl, x1⟩ := rels_1 rxs
  obtain ⟨p, ws, rfl, g1, g2⟩ := h1.l r x1
  rw [Rels.strs] at g2; subst g2
  exact ⟨a, p, ys, rel_str.mp rx, rfl, g1, hz, lq _ _ S _ _ q (Sub.refl S) r (rel_str.mpr rfl)⟩
theorem s_ipadd {K : Fr} : Snd2 K wAdd (ipI fun i j => i + j) := fun S F H h x y v w Q' Q r rx ry q lq => by
  obtain ⟨i, j, rfl, rfl, q⟩ := q
  exact ⟨i, j, rel_int.mp rx, rel_int.mp ry, lq _ _ S _ _ q (Sub.refl S) r (rel_int.mpr rfl)⟩
/-- a module's int, text -/
theorem zglobI {x : Str} {i : Int} (hg : Gl X x) (hm : ∃ t, X.mg x = some (.int i t)) (hd : (x == ("__debug__" : Str)) = false := by decide) : ZE X W (.Name x pos) (wC (.int i)) := by
  obtain ⟨t, hm⟩ := hm
  exact zglob (w := .int i) hg hm ⟨t, rfl⟩ (fun _ => rel_int.mpr rfl) hd
theorem zglobS {x z : Str} (hg : Gl X x) (hm : ∃ t, X.mg x = some (.str z t)) (hd : (x == ("__debug__" : Str)) = false := by decide) : ZE X W (.Name x pos) (wC (.str z)) := by
  obtain ⟨t, hm⟩ := hm
  exact zglob (w := .str z) hg hm ⟨t, rfl⟩ (fun _ => rel_str.mpr rfl) hd
end
/-! ### steps through a reading -/
theorem i_seq {t u : WS} {nx rt bk ct xe ρ h} (q : t (u nx rt bk ct xe) rt bk ct xe ρ h) : wSeq t u nx rt bk ct xe ρ h := q
theorem i_next {nx : EH} {rt bk ct xe ρ h} (q : nx ρ h) : wNext nx rt bk ct xe ρ h := q
theorem i_expr {te : WE} {nx rt bk ct xe ρ h} (q : te ρ h (atx xe ρ) fun _ h1 => nx ρ h1) : wExpr te nx rt bk ct xe ρ h := q
theorem i_ret {te : WE} {nx rt bk ct xe ρ h} (q : te ρ h (atx xe ρ) rt) : wRet te nx rt bk ct xe ρ h := q
theorem i_if {c : WT} {t u : WS} {nx rt bk ct xe ρ h} (q : c ρ h (atx xe ρ) fun b h1 => if b = true then t nx rt bk ct xe ρ h1 else u nx rt bk ct xe ρ h1) : wIf c t u nx rt bk ct xe ρ h := q
theorem i_asg {te : WE} {g : WG} {nx rt bk ct xe ρ h} (q : te ρ h (atx xe ρ) fun v h1 => g v ρ h1 nx) : wAsg te g nx rt bk ct xe ρ h := q
theorem i_name {i : Nat} {v ρ h} {Q : EH} (q : Q (ρ.set i (some v)) h) : wgName i v ρ h Q := q
theorem i_var {i : Nat} {v : Val} {ρ : Ev} {h E} {Q : KQ} (e : ρ[i]? = some (some v)) (q : Q v h) : wVar i ρ h E Q := ⟨v, e, q⟩
theorem i_c {v : Val} {ρ : Ev} {h E} {Q : KQ} (q : Q v h) : wC v ρ h E Q := q
theorem i_op {r : W2} {ta tb : WE} {ρ h E} {Q : KQ} (q : ta ρ h E fun x h1 => tb ρ h1 E fun y h2 => r x y h2 Q) : wOp r ta tb ρ h E Q := q
theorem i_add {i j : Int} {h} {Q : KQ} (q : Q (.int (i + j)) h) : wAdd (.int i) (.int j) h Q := ⟨i, j, rfl, rfl, q⟩
theorem i_sub {i j : Int} {h} {Q : KQ} (q : Q (.int (i - j)) h) : wSub (.int i) (.int j) h Q := ⟨i, j, rfl, rfl, q⟩
theorem i_mul {i j : Int} {h} {Q : KQ} (c : CMul i j) (q : Q (.int (i * j)) h) : wMul (.int i) (.int j) h Q := ⟨i, j, rfl, rfl, c, q⟩
theorem i_mulW {i j : Int} {h} {Q : KQ} (c : CMulW i j) (q : Q (.int (i * j)) h) : wMulW (.int i) (.int j) h Q := ⟨i, j, rfl, rfl, c, q⟩
theorem i_mod {i j : Int} {h} {Q : KQ} (c : 0 < j) (q : Q (.int (i % j)) h) : wMod (.int i) (.int j) h Q := ⟨i, j, rfl, rfl, c, q⟩
theorem i_divW {i j : Int} {h} {Q : KQ} (c : CDivW i j) (q : Q (.int (i / j)) h) : wDivW (.int i) (.int j) h Q := ⟨i, j, rfl, rfl, c, q⟩
theorem i_pow {i j : Int} {h} {Q : KQ} (c : CPow i j) (q : Q (.int (i ^ j.toNat)) h) : wPow (.int i) (.int j) h Q := ⟨i, j, rfl, rfl, c, q⟩
theorem i_lt {i j : Int} {h} {Q : KQ} (q : Q (.bl (decide (i < j))) h) : wLt (.int i) (.int j) h Q := ⟨i, j, rfl, rfl, q⟩
theorem i_le {i j : Int} {h} {Q : KQ} (q : Q (.bl (decide (i ≤ j))) h) : wLe (.int i) (.int j) h Q := ⟨i, j, rfl, rfl, q⟩
theorem i_gt {i j : Int} {h} {Q : KQ} (q : Q (.bl (decide (j < i))) h) : wGt (.int i) (.int j) h Q := ⟨i, j, rfl, rfl, q⟩
theorem i_ge {i j : Int} {h} {Q : KQ} (q : Q (.bl (decide (j ≤ i))) h) : wGe (.int i) (.int j) h Q := ⟨i, j, rfl, rfl, q⟩
theorem i_eqI {i j : Int} {h} {Q : KQ} (q : Q (.bl (decide (i = j))) h) : wEqS (.int i) (.int j) h Q := ⟨rfl, q⟩
theorem i_neI {i j : Int} {h} {Q : KQ} (q : Q (.bl (!decide (i = j))) h) : wNeS (.int i) (.int j) h Q := ⟨rfl, q⟩
theorem i_eqT {i j : Str} {h} {Q : KQ} (q : Q (.bl (decide (i = j))) h) : wEqS (.str i) (.str j) h Q := ⟨rfl, q⟩
theorem i_neT {i j : Str} {h} {Q : KQ} (q : Q (.bl (!decide (i = j))) h) : wNeS (.str i) (.str j) h Q := ⟨rfl, q⟩
theorem i_eqB {i j : Bool} {h} {Q : KQ} (q : Q (.bl (decide (i = j))) h) : wEqS (.bl i) (.bl j) h Q := ⟨rfl, q⟩
theorem i_neB {i j : Bool} {h} {Q : KQ} (q : Q (.bl (!decide (i = j))) h) : wNeS (.bl i) (.bl j) h Q := ⟨rfl, q⟩
theorem i_tv {t : WE} {ρ h E} {Q : Bool → Hh → Prop} (q : t ρ h E fun v h1 => ∃ c, v = .bl c ∧ Q c h1) : wTv t ρ h E Q := q
theorem i_bl {c : Bool} {h : Hh} {Q : Bool → Hh → Prop} (q : Q c h) : ∃ b, Val.bl c = .bl b ∧ Q b h := ⟨c, rfl, q⟩
theorem i_blV {c : Bool} {A : Bool → Prop} (q : A c) : ∃ b, Val.bl c = .bl b ∧ A b := ⟨c, rfl, q⟩
theorem i_not {t : WT} {ρ h E} {Q : Bool → Hh → Prop} (q : t ρ h E fun b h1 => Q (!b) h1) : wNot t ρ h E Q := q
theorem i_and {t u : WT} {ρ h E} {Q : Bool → Hh → Prop} (q : t ρ h E fun c h1 => if c = true then u ρ h1 E Q else Q false h1) : wAnd t u ρ h E Q := q
theorem i_or {t u : WT} {ρ h E} {Q : Bool → Hh → Prop} (q : t ρ h E fun c h1 => if c = true then Q true h1 else u ρ h1 E Q) : wOr t u ρ h E Q := q
theorem i_andV {ta tb : WE} {ρ h E} {Q : KQ} (q : ta ρ h E fun x h1 => ∃ c, x = .bl c ∧ if c = true then tb ρ h1 E Q else Q (.bl false) h1) : wAndV ta tb ρ h E Q := q
theorem i_orV {ta tb : WE} {ρ h E} {Q : KQ} (q : ta ρ h E fun x h1 => ∃ c, x = .bl c ∧ if c = true then Q (.bl true) h1 else tb ρ h1 E Q) : wOrV ta tb ρ h E Q := q
theorem i_notV {ta : WE} {ρ h E} {Q : KQ} (q : ta ρ h E fun x h1 => ∃ c, x = .bl c ∧ Q (.bl (!c)) h1) : wNotV ta ρ h E Q := q
theorem i_ifE {c : WT} {ta tb : WE} {ρ h E} {Q : KQ} (q : c ρ h E fun b h1 => if b = true then ta ρ h1 E Q else tb ρ h1 E Q) : wIfE c ta tb ρ h E Q := q
theorem i_isN {ta : WE} {ρ h E} {Q : KQ} (q : ta ρ h E fun x h1 => Q (.bl (isNon x)) h1) : wIsN ta ρ h E Q := q
theorem i_notN {ta : WE} {ρ h E} {Q : KQ} (q : ta ρ h E fun x h1 => Q (.bl (!isNon x)) h1) : wNotN ta ρ h E Q := q
theorem i_un {ta : WE} {ρ h E} {Q : KQ} (q : ta ρ h E fun x h1 => ∃ i, x = .int i ∧ Q (.int (-i)) h1) : wUn ta ρ h E Q := q
theorem i_int1 {i : Int} {A : Int → Prop} (q : A i) : ∃ j, Val.int i = .int j ∧ A j := ⟨i, rfl, q⟩
theorem i_nil {ρ h E} {Q : List Val → Hh → Prop} (q : Q [] h) : wNil ρ h E Q := q
theorem i_cons {ta : WE} {tr : WA} {ρ h E} {Q : List Val → Hh → Prop} (q : ta ρ h E fun x h1 => tr ρ h1 E fun xs h2 => Q (x :: xs) h2) : wCons ta tr ρ h E Q := q
theorem i_tup {t : WA} {ρ h E} {Q : KQ} (q : t ρ h E fun xs h1 => small xs.length ∧ Q (.tup xs) h1) : wTup t ρ h E Q := q
theorem i_lst {t : WA} {ρ h E} {Q : KQ} (q : t ρ h E fun xs h1 => small xs.length ∧ NewL xs h1 Q) : wLst t ρ h E Q := q
theorem i_small {n : Nat} {A : Prop} (e : n ≤ 16000000) (q : A) : small n ∧ A := ⟨e, q⟩
theorem i_cb {r : WC} {t : WA} {ρ h E} {Q : KQ} (q : t ρ h E fun vs h1 => r vs h1 Q) : wCB r t ρ h E Q := q
theorem i_call {fs : FS} {dv : List Val} {t : WA} {ρ h E} {Q : KQ} (q : t ρ h E fun vs h1 => fs.sp (vs ++ dv) h1 E Q) : wCall fs dv t ρ h E Q := q
theorem i_meth {C : Addr} {m : Str} {fs : FS} {dv : List Val} {ta : WE} {t : WA} {ρ h E} {Q : KQ} (q : ta ρ h E fun x h1 => ∃ fl, Ins h1 x C fl ∧ fl.lookup m = none ∧ t ρ h1 E fun vs h2 => fs.sp (x :: (vs ++ dv)) h2 E Q) : wMeth C m fs dv ta t ρ h E Q := q
theorem i_make {C : Addr} {fs : FS} {dv : List Val} {t : WA} {ρ h E} {Q : KQ} (q : t ρ h E fun vs h1 => ∀ a, h1 a = none → fs.sp (.ref a :: (vs ++ dv)) (hup h1 a (.ins C [])) E (fun v h2 => v = .non ∧ MkEnd C a h2 Q)) : wMake C fs dv t ρ h E Q := q
theorem i_fld {C : Addr} {ta : WE} {f : Str} {ρ h E} {Q : KQ} (q : ta ρ h E fun x h1 => ∃ fs v, Ins h1 x C fs ∧ fs.lookup f = some v ∧ Q v h1) : wFld C ta f ρ h E Q := q
theorem i_ix {x : Val} {i : Int} {v : Val} {h} {Q : KQ} (e : IxA h x i v) (q : Q v h) : wIx x (.int i) h Q := ⟨i, v, rfl, e, q⟩
theorem i_fldS {C : Addr} {ta tv : WE} {f : Str} {nx rt bk ct xe ρ h} (q : tv ρ h (atx xe ρ) fun y h1 => ta ρ h1 (atx xe ρ) fun x h2 => ∃ a fs, x = .ref a ∧ h2 a = some (.ins C fs) ∧ fs.length < 1000 ∧ nx ρ (hup h2 a (.ins C (putv f y fs)))) : wFldS C ta tv f nx rt bk ct xe ρ h := q
theorem i_bm {T : String} {r : WM} {to : WE} {t : WA} {ρ h E} {Q : KQ} (q : to ρ h E fun x h1 => TyM h1 T x ∧ t ρ h1 E fun xs h2 => r x xs h2 Q) : wBM T r to t ρ h E Q := q
theorem i_sub_ {to ti : WE} {t : WSet} {E : XQ} {v ρ h} {Q : EH} (q : to ρ h E fun o h1 => ti ρ h1 E fun i h2 => t o i v h2 fun h3 => Q ρ h3) : wgSub to ti t E v ρ h Q := q
theorem i_lc {wi : WI} {tg tt te vs ρ h E} {Q : KQ} (q : wi ρ h E fun xs chk h1 => wLcB tg xs chk tt te vs ρ h1 Q) : wLc wi tg tt te vs ρ h E Q := q
theorem i_r1 {t : WE} {ρ h E G} (q : t ρ h E fun v h1 => ∃ j : Int, v = .int j ∧ -(2 ^ 62) ≤ j ∧ j < 2 ^ 62 ∧ G (rng 0 j.toNat) (fun _ => True) h1) : wiR1 t ρ h E G := q
theorem i_iL {t : WE} {ρ h E G} (q : t ρ h E fun v h1 => Its h1 v G) : wiL t ρ h E G := q
theorem i_iT {t : WE} {ρ h E G} (q : t ρ h E fun v h1 => ∃ xs, v = .tup xs ∧ G xs (fun _ => True) h1) : wiT t ρ h E G := q
theorem i_atx {xe : XS} {ρ C v h} (q : xe C v ρ h) : atx xe ρ C v h := q
theorem i_if2 {b : Bool} {A B : Prop} (h1 : b = true → A) (h2 : b = false → B) : if b = true then A else B := by
  cases b with
  | true => exact iteT (h1 rfl)
  | false => exact iteF (h2 rfl)
theorem i_ifd {p : Prop} [Decidable p] {A B : Prop} (h1 : p → A) (h2 : ¬ p → B) : if decide p = true then A else B := by
  by_cases h : p
  · rw [decide_eq_true h]; exact iteT (h1 h)
  · rw [decide_eq_false h]; exact iteF (h2 h)
theorem i_ifn {p : Prop} [Decidable p] {A B : Prop} (h1 : ¬ p → A) (h2 : p → B) : if (!decide p) = true then A else B := by
  by_cases h : p
  · rw [decide_eq_true h]; exact iteF (h2 h)
  · rw [decide_eq_false h]; exact iteT (h1 h)
/-! Z9 -/
/-! steps over written slots; lookups; tables of small lemmas for readings -/
theorem i_var0 {v : Val} {r : Ev} {h E} {Q : KQ} (q : Q v h) : wVar 0 (some v :: r) h E Q := ⟨v, rfl, q⟩
theorem i_name0 {c : Option Val} {v : Val} {r : Ev} {h} {Q : EH} (q : Q (some v :: r) h) : wgName 0 v (c :: r) h Q := q
theorem i_var1 {a0 : Option Val} {v : Val} {r : Ev} {h E} {Q : KQ} (q : Q v h) : wVar 1 (a0 :: some v :: r) h E Q := ⟨v, rfl, q⟩
theorem i_name1 {a0 : Option Val} {c : Option Val} {v : Val} {r : Ev} {h} {Q : EH} (q : Q (a0 :: some v :: r) h) : wgName 1 v (a0 :: c :: r) h Q := q
theorem i_var2 {a0 a1 : Option Val} {v : Val} {r : Ev} {h E} {Q : KQ} (q : Q v h) : wVar 2 (a0 :: a1 :: some v :: r) h E Q := ⟨v, rfl, q⟩
theorem i_name2 {a0 a1 : Option Val} {c : Option Val} {v : Val} {r : Ev} {h} {Q : EH} (q : Q (a0 :: a1 :: some v :: r) h) : wgName 2 v (a0 :: a1 :: c :: r) h Q := q
theorem i_var3 {a0 a1 a2 : Option Val} {v : Val} {r : Ev} {h E} {Q : KQ} (q : Q v h) : wVar 3 (a0 :: a1 :: a2 :: some v :: r) h E Q := ⟨v, rfl, q⟩
theorem i_name3 {a0 a1 a2 : Option Val} {c : Option Val} {v : Val} {r : Ev} {h} {Q : EH} (q : Q (a0 :: a1 :: a2 :: some v :: r) h) : wgName 3 v (a0 :: a1 :: a2 :: c :: r) h Q := q
theorem i_var4 {a0 a1 a2 a3 : Option Val} {v : Val} {r : Ev} {h E} {Q : KQ} (q : Q v h) : wVar 4 (a0 :: a1 :: a2 :: a3 :: some v :: r) h E Q := ⟨v, rfl, q⟩
theorem i_name4 {a0 a1 a2 a3 : Option Val} {c : Option Val} {v : Val} {r : Ev} {h} {Q : EH} (q : Q (a0 :: a1 :: a2 :: a3 :: some v :: r) h) : wgName 4 v (a0 :: a1 :: a2 :: a3 :: c :: r) h Q := q
theorem i_var5 {a0 a1 a2 a3 a4 : Option Val} {v : Val} {r : Ev} {h E} {Q : KQ} (q : Q v h) : wVar 5 (a0 :: a1 :: a2 :: a3 :: a4 :: some v :: r) h E Q := ⟨v, rfl, q⟩
theorem i_name5 {a0 a1 a2 a3 a4 : Option Val} {c : Option Val} {v : Val} {r : Ev} {h} {Q : EH} (q : Q (a0 :: a1 :: a2 :: a3 :: a4 :: some v :: r) h) : wgName 5 v (a0 :: a1 :: a2 :: a3 :: a4 :: c :: r) h Q := q
theorem i_var6 {a0 a1 a2 a3 a4 a5 : Option Val} {v : Val} {r : Ev} {h E} {Q : KQ} (q : Q v h) : wVar 6 (a0 :: a1 :: a2 :: a3 :: a4 :: a5 :: some v :: r) h E Q := ⟨v, rfl, q⟩
theorem i_name6 {a0 a1 a2 a3 a4 a5 : Option Val} {c : Option Val} {v : Val} {r : Ev} {h} {Q : EH} (q : Q (a0 :: a1 :: a2 :: a3 :: a4 :: a5 :: some v :: r) h) : wgName 6 v (a0 :: a1 :: a2 :: a3 :: a4 :: a5 :: c :: r) h Q := q
theorem i_var7 {a0 a1 a2 a3 a4 a5 a6 : Option Val} {v : Val} {r : Ev} {h E} {Q : KQ} (q : Q v h) : wVar 7 (a0 :: a1 :: a2 :: a3 :: a4 :: a5 :: a6 :: some v :: r) h E Q := ⟨v, rfl, q⟩
theorem i_name7 {a0 a1 a2 a3 a4 a5 a6 : Option Val} {c : Option Val} {v : Val} {r : Ev} {h} {Q : EH} (q : Q (a0 :: a1 :: a2 :: a3 :: a4 :: a5 :: a6 :: some v :: r) h) : wgName 7 v (a0 :: a1 :: a2 :: a3 :: a4 :: a5 :: a6 :: c :: r) h Q := q
theorem i_var8 {a0 a1 a2 a3 a4 a5 a6 a7 : Option Val} {v : Val} {r : Ev} {h E} {Q : KQ} (q : Q v h) : wVar 8 (a0 :: a1 :: a2 :: a3 :: a4 :: a5 :: a6 :: a7 :: some v :: r) h E Q := ⟨v, rfl, q⟩
theorem i_name8 {a0 a1 a2 a3 a4 a5 a6 a7 : Option Val} {c : Option Val} {v : Val} {r : Ev} {h} {Q : EH} (q : Q (a0 :: a1 :: a2 :: a3 :: a4 :: a5 :: a6 :: a7 :: some v :: r) h) : wgName 8 v (a0 :: a1 :: a2 :: a3 :: a4 :: a5 :: a6 :: a7 :: c :: r) h Q := q
theorem i_var9 {a0 a1 a2 a3 a4 a5 a6 a7 a8 : Option Val} {v : Val} {r : Ev} {h E} {Q : KQ} (q : Q v h) : wVar 9 (a0 :: a1 :: a2 :: a3 :: a4 :: a5 :: a6 :: a7 :: a8 :: some v :: r) h E Q := ⟨v, rfl, q⟩
theorem i_name9 {a0 a1 a2 a3 a4 a5 a6 a7 a8 : Option Val} {c : Option Val} {v : Val} {r : Ev} {h} {Q : EH} (q : Q (a0 :: a1 :: a2 :: a3 :: a4 :: a5 :: a6 :: a7 :: a8 :: some v :: r) h) : wgName 9 v (a0 :: a1 :: a2 :: a3 :: a4 :: a5 :: a6 :: a7 :: a8 :: c :: r) h Q := q
theorem i_var10 {a0 a1 a2 a3 a4 a5 a6 a7 a8 a9 : Option Val} {v : Val} {r : Ev} {h E} {Q : KQ} (q : Q v h) : wVar 10 (a0 :: a1 :: a2 :: a3 :: a4 :: a5 :: a6 :: a7 :: a8 :: a9 :: some v :: r) h E Q := ⟨v, rfl, q⟩
theorem i_name10 {a0 a1 a2 a3 a4 a5 a6 a7 a8 a9 : Option Val} {c : Option Val} {v : Val} {r : Ev} {h} {Q : EH} (q : Q (a0 :: a1 :: a2 :: a3 :: a4 :: a5 :: a6 :: a7 :: a8 :: a9 :: some v :: r) h) : wgName 10 v (a0 :: a1 :: a2 :: a3 :: a4 :: a5 :: a6 :: a7 :: a8 :: a9 :: c :: r) h Q := q
theorem i_var11 {a0 a1 a2 a3 a4 a5 a6 a7 a8 a9 a10 : Option Val} {v : Val} {r : Ev} {h E} {Q : KQ} (q : Q v h) : wVar 11 (a0 :: a1 :: a2 :: a3 :: a4 :: a5 :: a6 :: a7 :: a8 :: a9 :: a10 :: some v :: r) h E Q := ⟨v, rfl, q⟩
theorem i_name11 {a0 a1 a2 a3 a4 a5 a6 a7 a8 a9 a10 : Option Val} {c : Option Val} {v : Val} {r : Ev} {h} {Q : EH} (q : Q (a0 :: a1 :: a2 :: a3 :: a4 :: a5 :: a6 :: a7 :: a8 :: a9 :: a10 :: some v :: r) h) : wgName 11 v (a0 :: a1 :: a2 :: a3 :: a4 :: a5 :: a6 :: a7 :: a8 :: a9 :: a10 :: c :: r) h Q := q
theorem i_var12 {a0 a1 a2 a3 a4 a5 a6 a7 a8 a9 a10 a11 : Option Val} {v : Val} {r : Ev} {h E} {Q : KQ} (q : Q v h) : wVar 12 (a0 :: a1 :: a2 :: a3 :: a4 :: a5 :: a6 :: a7 :: a8 :: a9 :: a10 :: a11 :: some v :: r) h E Q := ⟨v, rfl, q⟩
theorem i_name12 {a0 a1 a2 a3 a4 a5 a6 a7 a8 a9 a10 a11 : Option Val} {c : Option Val} {v : Val} {r : Ev} {h} {Q : EH} (q : Q (a0 :: a1 :: a2 :: a3 :: a4 :: a5 :: a6 :: a7 :: a8 :: a9 :: a10 :: a11 :: some v :: r) h) : wgName 12 v (a0 :: a1 :: a2 :: a3 :: a4 :: a5 :: a6 :: a7 :: a8 :: a9 :: a10 :: a11 :: c :: r) h Q := q
theorem i_var13 {a0 a1 a2 a3 a4 a5 a6 a7 a8 a9 a10 a11 a12 : Option Val} {v : Val} {r : Ev} {h E} {Q : KQ} (q : Q v h) : wVar 13 (a0 :: a1 :: a2 :: a3 :: a4 :: a5 :: a6 :: a7 :: a8 :: a9 :: a10 :: a11 :: a12 :: some v :: r) h E Q := ⟨v, rfl, q⟩
theorem i_name13 {a0 a1 a2 a3 a4 a5 a6 a7 a8 a9 a10 a11 a12 : Option Val} {c : Option Val} {v : Val} {r : Ev} {h} {Q : EH} (q : Q (a0 :: a1 :: a2 :: a3 :: a4 :: a5 :: a6 :: a7 :: a8 :: a9 :: a10 :: a11 :: a12 :: some v :: r) h) : wgName 13 v (a0 :: a1 :: a2 :: a3 :: a4 :: a5 :: a6 :: a7 :: a8 :: a9 :: a10 :: a11 :: a12 :: c :: r) h Q := q
theorem i_var14 {a0 a1 a2 a3 a4 a5 a6 a7 a8 a9 a10 a11 a12 a13 : Option Val} {v : Val} {r : Ev} {h E} {Q : KQ} (q : Q v h) : wVar 14 (a0 :: a1 :: a2 :: a3 :: a4 :: a5 :: a6 :: a7 :: a8 :: a9 :: a10 :: a11 :: a12 :: a13 :: some v :: r) h E Q := ⟨v, rfl, q⟩
theorem i_name14 {a0 a1 a2 a3 a4 a5 a6 a7 a8 a9 a10 a11 a12 a13 : Option Val} {c : Option Val} {v : Val} {r : Ev} {h} {Q : EH} (q : Q (a0 :: a1 :: a2 :: a3 :: a4 :: a5 :: a6 :: a7 :: a8 :: a9 :: a10 :: a11 :: a12 :: a13 :: some v :: r) h) : wgName 14 v (a0 :: a1 :: a2 :: a3 :: a4 :: a5 :: a6 :: a7 :: a8 :: a9 :: a10 :: a11 :: a12 :: a13 :: c :: r) h Q := q
theorem i_var15 {a0 a1 a2 a3 a4 a5 a6 a7 a8 a9 a10 a11 a12 a13 a14 : Option Val} {v : Val} {r : Ev} {h E} {Q : KQ} (q : Q v h) : wVar 15 (a0 :: a1 :: a2 :: a3 :: a4 :: a5 :: a6 :: a7 :: a8 :: a9 :: a10 :: a11 :: a12 :: a13 :: a14 :: some v :: r) h E Q := ⟨v, rfl, q⟩
theorem i_name15 {a0 a1 a2 a3 a4 a5 a6 a7 a8 a9 a10 a11 a12 a13 a14 : Option Val} {c : Option Val} {v : Val} {r : Ev} {h} {Q : EH} (q : Q (a0 :: a1 :: a2 :: a3 :: a4 :: a5 :: a6 :: a7 :: a8 :: a9 :: a10 :: a11 :: a12 :: a13 :: a14 :: some v :: r) h) : wgName 15 v (a0 :: a1 :: a2 :: a3 :: a4 :: a5 :: a6 :: a7 :: a8 :: a9 :: a10 :: a11 :: a12 :: a13 :: a14 :: c :: r) h Q := q
theorem i_var16 {a0 a1 a2 a3 a4 a5 a6 a7 a8 a9 a10 a11 a12 a13 a14 a15 : Option Val} {v : Val} {r : Ev} {h E} {Q : KQ} (q : Q v h) : wVar 16 (a0 :: a1 :: a2 :: a3 :: a4 :: a5 :: a6 :: a7 :: a8 :: a9 :: a10 :: a11 :: a12 :: a13 :: a14 :: a15 :: some v :: r) h E Q := ⟨v, rfl, q⟩
theorem i_name16 {a0 a1 a2 a3 a4 a5 a6 a7 a8 a9 a10 a11 a12 a13 a14 a15 : Option Val} {c : Option Val} {v : Val} {r : Ev} {h} {Q : EH} (q : Q (a0 :: a1 :: a2 :: a3 :: a4 :: a5 :: a6 :: a7 :: a8 :: a9 :: a10 :: a11 :: a12 :: a13 :: a14 :: a15 :: some v :: r) h) : wgName 16 v (a0 :: a1 :: a2 :: a3 :: a4 :: a5 :: a6 :: a7 :: a8 :: a9 :: a10 :: a11 :: a12 :: a13 :: a14 :: a15 :: c :: r) h Q := q
theorem i_var17 {a0 a1 a2 a3 a4 a5 a6 a7 a8 a9 a10 a11 a12 a13 a14 a15 a16 : Option Val} {v : Val} {r : Ev} {h E} {Q : KQ} (q : Q v h) : wVar 17 (a0 :: a1 :: a2 :: a3 :: a4 :: a5 :: a6 :: a7 :: a8 :: a9 :: a10 :: a11 :: a12 :: a13 :: a14 :: a15 :: a16 :: some v :: r) h E Q := ⟨v, rfl, q⟩
theorem i_name17 {a0 a1 a2 a3 a4 a5 a6 a7 a8 a9 a10 a11 a12 a13 a14 a15 a16 : Option Val} {c : Option Val} {v : Val} {r : Ev} {h} {Q : EH} (q : Q (a0 :: a1 :: a2 :: a3 :: a4 :: a5 :: a6 :: a7 :: a8 :: a9 :: a10 :: a11 :: a12 :: a13 :: a14 :: a15 :: a16 :: some v :: r) h) : wgName 17 v (a0 :: a1 :: a2 :: a3 :: a4 :: a5 :: a6 :: a7 :: a8 :: a9 :: a10 :: a11 :: a12 :: a13 :: a14 :: a15 :: a16 :: c :: r) h Q := q
theorem i_var18 {a0 a1 a2 a3 a4 a5 a6 a7 a8 a9 a10 a11 a12 a13 a14 a15 a16 a17 : Option Val} {v : Val} {r : Ev} {h E} {Q : KQ} (q : Q v h) : wVar 18 (a0 :: a1 :: a2 :: a3 :: a4 :: a5 :: a6 :: a7 :: a8 :: a9 :: a10 :: a11 :: a12 :: a13 :: a14 :: a15 :: a16 :: a17 :: some v :: r) h E Q := ⟨v, rfl, q⟩
theorem i_name18 {a0 a1 a2 a3 a4 a5 a6 a7 a8 a9 a10 a11 a12 a13 a14 a15 a16 a17 : Option Val} {c : Option Val} {v : Val} {r : Ev} {h} {Q : EH} (q : Q (a0 :: a1 :: a2 :: a3 :: a4 :: a5 :: a6 :: a7 :: a8 :: a9 :: a10 :: a11 :: a12 :: a13 :: a14 :: a15 :: a16 :: a17 :: some v :: r) h) : wgName 18 v (a0 :: a1 :: a2 :: a3 :: a4 :: a5 :: a6 :: a7 :: a8 :: a9 :: a10 :: a11 :: a12 :: a13 :: a14 :: a15 :: a16 :: a17 :: c :: r) h Q := q
theorem i_var19 {a0 a1 a2 a3 a4 a5 a6 a7 a8 a9 a10 a11 a12 a13 a14 a15 a16 a17 a18 : Option Val} {v : Val} {r : Ev} {h E} {Q : KQ} (q : Q v h) : wVar 19 (a0 :: a1 :: a2 :: a3 :: a4 :: a5 :: a6 :: a7 :: a8 :: a9 :: a10 :: a11 :: a12 :: a13 :: a14 :: a15 :: a16 :: a17 :: a18 :: some v :: r) h E Q := ⟨v, rfl, q⟩
theorem i_name19 {a0 a1 a2 a3 a4 a5 a6 a7 a8 a9 a10 a11 a12 a13 a14 a15 a16 a17 a18 : Option Val} {c : Option Val} {v : Val} {r : Ev} {h} {Q : EH} (q : Q (a0 :: a1 :: a2 :: a3 :: a4 :: a5 :: a6 :: a7 :: a8 :: a9 :: a10 :: a11 :: a12 :: a13 :: a14 :: a15 :: a16 :: a17 :: a18 :: some v :: r) h) : wgName 19 v (a0 :: a1 :: a2 :: a3 :: a4 :: a5 :: a6 :: a7 :: a8 :: a9 :: a10 :: a11 :: a12 :: a13 :: a14 :: a15 :: a16 :: a17 :: a18 :: c :: r) h Q := q
theorem i_var20 {a0 a1 a2 a3 a4 a5 a6 a7 a8 a9 a10 a11 a12 a13 a14 a15 a16 a17 a18 a19 : Option Val} {v : Val} {r : Ev} {h E} {Q : KQ} (q : Q v h) : wVar 20 (a0 :: a1 :: a2 :: a3 :: a4 :: a5 :: a6 :: a7 :: a8 :: a9 :: a10 :: a11 :: a12 :: a13 :: a14 :: a15 :: a16 :: a17 :: a18 :: a19 :: some v :: r) h E Q := ⟨v, rfl, q⟩
theorem i_name20 {a0 a1 a2 a3 a4 a5 a6 a7 a8 a9 a10 a11 a12 a13 a14 a15 a16 a17 a18 a19 : Option Val} {c : Option Val} {v : Val} {r : Ev} {h} {Q : EH} (q : Q (a0 :: a1 :: a2 :: a3 :: a4 :: a5 :: a6 :: a7 :: a8 :: a9 :: a10 :: a11 :: a12 :: a13 :: a14 :: a15 :: a16 :: a17 :: a18 :: a19 :: some v :: r) h) : wgName 20 v (a0 :: a1 :: a2 :: a3 :: a4 :: a5 :: a6 :: a7 :: a8 :: a9 :: a10 :: a11 :: a12 :: a13 :: a14 :: a15 :: a16 :: a17 :: a18 :: a19 :: c :: r) h Q := q
theorem i_var21 {a0 a1 a2 a3 a4 a5 a6 a7 a8 a9 a10 a11 a12 a13 a14 a15 a16 a17 a18 a19 a20 : Option Val} {v : Val} {r : Ev} {h E} {Q : KQ} (q : Q v h) : wVar 21 (a0 :: a1 :: a2 :: a3 :: a4 :: a5 :: a6 :: a7 :: a8 :: a9 :: a10 :: a11 :: a12 :: a13 :: a14 :: a15 :: a16 :: a17 :: a18 :: a19 :: a20 :: some v :: r) h E Q := ⟨v, rfl, q⟩
theorem i_name21 {a0 a1 a2 a3 a4 a5 a6 a7 a8 a9 a10 a11 a12 a13 a14 a15 a16 a17 a18 a19 a20 : Option Val} {c : Option Val} {v : Val} {r : Ev} {h} {Q : EH} (q : Q (a0 :: a1 :: a2 :: a3 :: a4 :: a5 :: a6 :: a7 :: a8 :: a9 :: a10 :: a11 :: a12 :: a13 :: a14 :: a15 :: a16 :: a17 :: a18 :: a19 :: a20 :: some v :: r) h) : wgName 21 v (a0 :: a1 :: a2 :: a3 :: a4 :: a5 :: a6 :: a7 :: a8 :: a9 :: a10 :: a11 :: a12 :: a13 :: a14 :: a15 :: a16 :: a17 :: a18 :: a19 :: a20 :: c :: r) h Q := q
theorem i_var22 {a0 a1 a2 a3 a4 a5 a6 a7 a8 a9 a10 a11 a12 a13 a14 a15 a16 a17 a18 a19 a20 a21 : Option Val} {v : Val} {r : Ev} {h E} {Q : KQ} (q : Q v h) : wVar 22 (a0 :: a1 :: a2 :: a3 :: a4 :: a5 :: a6 :: a7 :: a8 :: a9 :: a10 :: a11 :: a12 :: a13 :: a14 :: a15 :: a16 :: a17 :: a18 :: a19 :: a20 :: a21 :: some v :: r) h E Q := ⟨v, rfl, q⟩
theorem i_name22 {a0 a1 a2 a3 a4 a5 a6 a7 a8 a9 a10 a11 a12 a13 a14 a15 a16 a17 a18 a19 a20 a21 : Option Val} {c : Option Val} {v : Val} {r : Ev} {h} {Q : EH} (q : Q (a0 :: a1 :: a2 :: a3 :: a4 :: a5 :: a6 :: a7 :: a8 :: a9 :: a10 :: a11 :: a12 :: a13 :: a14 :: a15 :: a16 :: a17 :: a18 :: a19 :: a20 :: a21 :: some v :: r) h) : wgName 22 v (a0 :: a1 :: a2 :: a3 :: a4 :: a5 :: a6 :: a7 :: a8 :: a9 :: a10 :: a11 :: a12 :: a13 :: a14 :: a15 :: a16 :: a17 :: a18 :: a19 :: a20 :: a21 :: c :: r) h Q := q
theorem i_var23 {a0 a1 a2 a3 a4 a5 a6 a7 a8 a9 a10 a11 a12 a13 a14 a15 a16 a17 a18 a19 a20 a21 a22 : Option Val} {v : Val} {r : Ev} {h E} {Q : KQ} (q : Q v h) : wVar 23 (a0 :: a1 :: a2 :: a3 :: a4 :: a5 :: a6 :: a7 :: a8 :: a9 :: a10 :: a11 :: a12 :: a13 :: a14 :: a15 :: a16 :: a17 :: a18 :: a19 :: a20 :: a21 :: a22 :: some v :: r) h E Q := ⟨v, rfl, q⟩
theorem i_name23 {a0 a1 a2 a3 a4 a5 a6 a7 a8 a9 a10 a11 a12 a13 a14 a15 a16 a17 a18 a19 a20 a21 a22 : Option Val} {c : Option Val} {v : Val} {r : Ev} {h} {Q : EH} (q : Q (a0 :: a1 :: a2 :: a3 :: a4 :: a5 :: a6 :: a7 :: a8 :: a9 :: a10 :: a11 :: a12 :: a13 :: a14 :: a15 :: a16 :: a17 :: a18 :: a19 :: a20 :: a21 :: a22 :: some v :: r) h) : wgName 23 v (a0 :: a1 :: a2 :: a3 :: a4 :: a5 :: a6 :: a7 :: a8 :: a9 :: a10 :: a11 :: a12 :: a13 :: a14 :: a15 :: a16 :: a17 :: a18 :: a19 :: a20 :: a21 :: a22 :: c :: r) h Q := q
theorem i_var24 {a0 a1 a2 a3 a4 a5 a6 a7 a8 a9 a10 a11 a12 a13 a14 a15 a16 a17 a18 a19 a20 a21 a22 a23 : Option Val} {v : Val} {r : Ev} {h E} {Q : KQ} (q : Q v h) : wVar 24 (a0 :: a1 :: a2 :: a3 :: a4 :: a5 :: a6 :: a7 :: a8 :: a9 :: a10 :: a11 :: a12 :: a13 :: a14 :: a15 :: a16 :: a17 :: a18 :: a19 :: a20 :: a21 :: a22 :: a23 :: some v :: r) h E Q := ⟨v, rfl, q⟩
theorem i_name24 {a0 a1 a2 a3 a4 a5 a6 a7 a8 a9 a10 a11 a12 a13 a14 a15 a16 a17 a18 a19 a20 a21 a22 a23 : Option Val} {c : Option Val} {v : Val} {r : Ev} {h} {Q : EH} (q : Q (a0 :: a1 :: a2 :: a3 :: a4 :: a5 :: a6 :: a7 :: a8 :: a9 :: a10 :: a11 :: a12 :: a13 :: a14 :: a15 :: a16 :: a17 :: a18 :: a19 :: a20 :: a21 :: a22 :: a23 :: some v :: r) h) : wgName 24 v (a0 :: a1 :: a2 :: a3 :: a4 :: a5 :: a6 :: a7 :: a8 :: a9 :: a10 :: a11 :: a12 :: a13 :: a14 :: a15 :: a16 :: a17 :: a18 :: a19 :: a20 :: a21 :: a22 :: a23 :: c :: r) h Q := q
theorem i_var25 {a0 a1 a2 a3 a4 a5 a6 a7 a8 a9 a10 a11 a12 a13 a14 a15 a16 a17 a18 a19 a20 a21 a22 a23 a24 : Option Val} {v : Val} {r : Ev} {h E} {Q : KQ} (q : Q v h) : wVar 25 (a0 :: a1 :: a2 :: a3 :: a4 :: a5 :: a6 :: a7 :: a8 :: a9 :: a10 :: a11 :: a12 :: a13 :: a14 :: a15 :: a16 :: a17 :: a18 :: a19 :: a20 :: a21 :: a22 :: a23 :: a24 :: some v :: r) h E Q := ⟨v, rfl, q⟩
theorem i_name25 {a0 a1 a2 a3 a4 a5 a6 a7 a8 a9 a10 a11 a12 a13 a14 a15 a16 a17 a18 a19 a20 a21 a22 a23 a24 : Option Val} {c : Option Val} {v : Val} {r : Ev} {h} {Q : EH} (q : Q (a0 :: a1 :: a2 :: a3 :: a4 :: a5 :: a6 :: a7 :: a8 :: a9 :: a10 :: a11 :: a12 :: a13 :: a14 :: a15 :: a16 :: a17 :: a18 :: a19 :: a20 :: a21 :: a22 :: a23 :: a24 :: some v :: r) h) : wgName 25 v (a0 :: a1 :: a2 :: a3 :: a4 :: a5 :: a6 :: a7 :: a8 :: a9 :: a10 :: a11 :: a12 :: a13 :: a14 :: a15 :: a16 :: a17 :: a18 :: a19 :: a20 :: a21 :: a22 :: a23 :: a24 :: c :: r) h Q := q

theorem i_call0 {fs : FS} {t : WA} {ρ h E} {Q : KQ} (q : t ρ h E fun vs h1 => fs.sp vs h1 E Q) : wCall fs [] t ρ h E Q := by
  unfold wCall
  have e : (fun vs h1 => fs.sp (vs ++ []) h1 E Q) = fun vs h1 => fs.sp vs h1 E Q := by
    funext vs h1
    rw [List.append_nil]
  rw [e]
  exact q
theorem i_meth0 {C : Addr} {m : Str} {fs : FS} {ta : WE} {t : WA} {ρ h E} {Q : KQ} (q : ta ρ h E fun x h1 => ∃ fl, Ins h1 x C fl ∧ fl.lookup m = none ∧ t ρ h1 E fun vs h2 => fs.sp (x :: vs) h2 E Q) : wMeth C m fs [] ta t ρ h E Q := by
  unfold wMeth
  have e : ∀ x : Val, (fun vs h2 => fs.sp (x :: (vs ++ [])) h2 E Q) = fun vs h2 => fs.sp (x :: vs) h2 E Q := fun x => by
    funext vs h1
    rw [List.append_nil]
  simp only [e]
  exact q
theorem i_make0 {C : Addr} {fs : FS} {t : WA} {ρ h E} {Q : KQ} (q : t ρ h E fun vs h1 => ∀ a, h1 a = none → fs.sp (.ref a :: vs) (hup h1 a (.ins C [])) E (fun v h2 => v = .non ∧ MkEnd C a h2 Q)) : wMake C fs [] t ρ h E Q := by
  unfold wMake
  have e : (fun (vs : List Val) (h1 : Hh) => ∀ a, h1 a = none → fs.sp (.ref a :: (vs ++ [])) (hup h1 a (.ins C [])) E (fun v h2 => v = .non ∧ MkEnd C a h2 Q)) = fun vs h1 => ∀ a, h1 a = none → fs.sp (.ref a :: vs) (hup h1 a (.ins C [])) E (fun v h2 => v = .non ∧ MkEnd C a h2 Q) := by
    funext vs h1
    rw [List.append_nil]
  rw [e]
  exact q
theorem i_fldO {C : Addr} {fs : List (Str × Val)} {f : Str} {v : Val} {h : Hh} {A : Val → Prop} (l : fs.lookup f = some v) (q : A v) : ∃ gs u, Ins h (.obj C fs) C gs ∧ gs.lookup f = some u ∧ A u := ⟨fs, v, .obj C fs, l, q⟩
theorem i_fldR {C a : Addr} {fs : List (Str × Val)} {f : Str} {v : Val} {h : Hh} {A : Val → Prop} (e : h a = some (.ins C fs)) (l : fs.lookup f = some v) (q : A v) : ∃ gs u, Ins h (.ref a) C gs ∧ gs.lookup f = some u ∧ A u := ⟨fs, v, .ref e, l, q⟩
theorem i_mO {C : Addr} {fs : List (Str × Val)} {m : Str} {h : Hh} {A : Prop} (l : fs.lookup m = none) (q : A) : ∃ gs, Ins h (.obj C fs) C gs ∧ gs.lookup m = none ∧ A := ⟨fs, .obj C fs, l, q⟩
theorem i_mR {C a : Addr} {fs : List (Str × Val)} {m : Str} {h : Hh} {A : Prop} (e : h a = some (.ins C fs)) (l : fs.lookup m = none) (q : A) : ∃ gs, Ins h (.ref a) C gs ∧ gs.lookup m = none ∧ A := ⟨fs, .ref e, l, q⟩
theorem lk_hd {f : Str} {v : Val} {r : List (Str × Val)} : ((f, v) :: r).lookup f = some v := by simp
theorem lk_tl {f g : Str} {v : Val} {r : List (Str × Val)} {x : Option Val} (e : (f == g) = false) (h : r.lookup f = x) : ((g, v) :: r).lookup f = x := by
  simp only [List.lookup, e]; exact h
theorem lk_nil {f : Str} : ([] : List (Str × Val)).lookup f = none := rfl
theorem i_ixT {xs : List Val} {i : Int} {v : Val} {h} {Q : KQ} (e : L2.atI xs i = some v) (q : Q v h) : wIx (.tup xs) (.int i) h Q := ⟨i, v, rfl, .tup e, q⟩
theorem i_ixL {xs : List Val} {i : Int} {v : Val} {h} {Q : KQ} (e : L2.atI xs i = some v) (q : Q v h) : wIx (.lst xs) (.int i) h Q := ⟨i, v, rfl, .lst (.lst xs) e, q⟩
theorem i_ixR {a : Addr} {xs : List Val} {i : Int} {v : Val} {h : Hh} {Q : KQ} (e1 : h a = some (.lst xs)) (e : L2.atI xs i = some v) (q : Q v h) : wIx (.ref a) (.int i) h Q := ⟨i, v, rfl, .lst (.ref e1) e, q⟩
theorem i_setL {p : Addr} {xs : List Val} {k : Int} {j : Nat} {v : Val} {h : Hh} {Q : Hh → Prop} (e : h p = some (.lst xs)) (ej : L2.ixN xs.length k = some j) (q : Q (hup h p (.lst (xs.set j v)))) : wSetL (.ref p) (.int k) v h Q := ⟨p, xs, k, j, rfl, rfl, e, ej, q⟩
theorem i_app {l : Addr} {xs : List Val} {y : Val} {h : Hh} {Q : KQ} (e : h l = some (.lst xs)) (hl : xs.length < 16000000) (q : Q .non (hup h l (.lst (xs ++ [y])))) : TyM h "list" (.ref l) → mAppend (.ref l) [y] h Q := fun _ => ⟨l, xs, y, rfl, rfl, e, hl, q⟩
theorem i_tyL {h : Hh} {l : Addr} {xs : List Val} {A : Prop} (e : h l = some (.lst xs)) (q : A) : TyM h "list" (.ref l) ∧ A := ⟨.lst (.ref e), q⟩
theorem i_append {l : Addr} {xs : List Val} {y : Val} {h : Hh} {Q : KQ} (e : h l = some (.lst xs)) (hl : xs.length < 16000000) (q : Q .non (hup h l (.lst (xs ++ [y])))) : mAppend (.ref l) [y] h Q := ⟨l, xs, y, rfl, rfl, e, hl, q⟩
theorem i_newF {xs : List Val} {h : Hh} {Q : KQ} (q : Q (.lst xs) h) : NewL xs h Q := .inr q
theorem i_newO {xs : List Val} {h : Hh} {Q : KQ} (q : ∀ a, h a = none → Q (.ref a) (hup h a (.lst xs))) : NewL xs h Q := .inl q
theorem i_ifdt {p : Prop} [Decidable p] {A B : Prop} (c : p) (h : A) : if decide p = true then A else B := by rw [decide_eq_true c]; exact iteT h
theorem i_ifdf {p : Prop} [Decidable p] {A B : Prop} (c : ¬ p) (h : B) : if decide p = true then A else B := by rw [decide_eq_false c]; exact iteF h
theorem i_ifnt {p : Prop} [Decidable p] {A B : Prop} (c : ¬ p) (h : A) : if (!decide p) = true then A else B := by rw [decide_eq_false c]; exact iteT h
theorem i_ifnf {p : Prop} [Decidable p] {A B : Prop} (c : p) (h : B) : if (!decide p) = true then A else B := by rw [decide_eq_true c]; exact iteF h
theorem i_ift {b : Bool} {A B : Prop} (c : b = true) (h : A) : if b = true then A else B := by rw [c]; exact iteT h
theorem i_iff {b : Bool} {A B : Prop} (c : b = false) (h : B) : if b = true then A else B := by rw [c]; exact iteF h
theorem i_itsF {xs : List Val} {h : Hh} {G : List Val → (Hh → Prop) → Hh → Prop} (q : G xs (fun _ => True) h) : Its h (.lst xs) G := .inl ⟨xs, .inl rfl, q⟩
theorem i_itsS {xs : List Val} {h : Hh} {G : List Val → (Hh → Prop) → Hh → Prop} (q : G xs (fun _ => True) h) : Its h (.scr xs) G := .inl ⟨xs, .inr rfl, q⟩
theorem i_itsR {a : Addr} {xs : List Val} {h : Hh} {G : List Val → (Hh → Prop) → Hh → Prop} (e : h a = some (.lst xs)) (q : G xs (fun h => h a = some (.lst xs)) h) : Its h (.ref a) G := .inr ⟨a, xs, rfl, e, q⟩
theorem i_itsT {xs : List Val} {h : Hh} {G : List Val → (Hh → Prop) → Hh → Prop} (q : G xs (fun _ => True) h) : ∃ ys, Val.tup xs = .tup ys ∧ G ys (fun _ => True) h := ⟨xs, rfl, q⟩
theorem i_len {x : Val} {n : Nat} {h : Hh} {Q : KQ} (e : LenN h x n) (q : Q (.int (n : Int)) h) : cLen [x] h Q := ⟨x, n, rfl, e, q⟩
theorem i_lenF {xs : List Val} {h : Hh} {Q : KQ} (q : Q (.int (xs.length : Int)) h) : cLen [.lst xs] h Q := ⟨_, _, rfl, .lst (.lst xs), q⟩
theorem i_lenT {xs : List Val} {h : Hh} {Q : KQ} (q : Q (.int (xs.length : Int)) h) : cLen [.tup xs] h Q := ⟨_, _, rfl, .tup, q⟩
theorem i_lenR {a : Addr} {xs : List Val} {h : Hh} {Q : KQ} (e : h a = some (.lst xs)) (q : Q (.int (xs.length : Int)) h) : cLen [.ref a] h Q := ⟨_, _, rfl, .lst (.ref e), q⟩
theorem i_listF {xs : List Val} {h : Hh} {Q : KQ} (q : NewL xs h Q) : cList [.lst xs] h Q := ⟨_, _, rfl, .lst (.lst xs), q⟩
theorem i_listT {xs : List Val} {h : Hh} {Q : KQ} (q : NewL xs h Q) : cList [.tup xs] h Q := ⟨_, _, rfl, .tup xs, q⟩
theorem i_listR {a : Addr} {xs : List Val} {h : Hh} {Q : KQ} (e : h a = some (.lst xs)) (q : NewL xs h Q) : cList [.ref a] h Q := ⟨_, _, rfl, .lst (.ref e), q⟩
theorem i_tupF {xs : List Val} {h : Hh} {Q : KQ} (q : Q (.tup xs) h) : cTuple [.lst xs] h Q := ⟨_, _, rfl, .lst (.lst xs), q⟩
theorem i_tupR {a : Addr} {xs : List Val} {h : Hh} {Q : KQ} (e : h a = some (.lst xs)) (q : Q (.tup xs) h) : cTuple [.ref a] h Q := ⟨_, _, rfl, .lst (.ref e), q⟩
theorem i_max {i j : Int} {h : Hh} {Q : KQ} (q : Q (.int (if j > i then j else i)) h) : cMax2 [.int i, .int j] h Q := ⟨i, j, rfl, q⟩
theorem i_min {i j : Int} {h : Hh} {Q : KQ} (q : Q (.int (if j < i then j else i)) h) : cMin2 [.int i, .int j] h Q := ⟨i, j, rfl, q⟩
theorem i_isi {x : Val} {n T : String} {b : Bool} {h : Hh} {Q : KQ} (e : TyN h x n) (k : kitB n T = some b) (q : Q (.bl b) h) : cIsi [x, .ty T] h Q := ⟨x, n, T, b, rfl, e, k, q⟩
theorem i_wgtup {n : Nat} {t : WGs} {xs : List Val} {ρ h} {Q : EH} (e : xs.length = n) (q : t xs ρ h Q) : wgTup n t (.tup xs) ρ h Q := ⟨xs, rfl, e, q⟩
theorem i_wgcons {t : WG} {u : WGs} {v : Val} {r : List Val} {ρ h} {Q : EH} (q : t v ρ h fun ρ1 h1 => u r ρ1 h1 Q) : wgCons t u (v :: r) ρ h Q := ⟨v, r, rfl, q⟩
theorem i_wgnil {ρ h} {Q : EH} (q : Q ρ h) : wgNil [] ρ h Q := ⟨rfl, q⟩
theorem i_aug {i : Nat} {te : WE} {r : W2} {x : Val} {nx rt bk ct xe ρ h} (e : ρ[i]? = some (some x)) (q : te ρ h (atx xe ρ) fun y h1 => r x y h1 fun z h2 => nx (ρ.set i (some z)) h2) : wAug i te r nx rt bk ct xe ρ h := ⟨x, e, q⟩
theorem i_wslL {te : WE} {tl th : WO} {r : W3} {ρ h E} {Q : KQ} (q : te ρ h E fun x h1 => tl ρ h1 E fun l h2 => th ρ h2 E fun u h3 => r x l u h3 Q) : wSl r te tl th ρ h E Q := q
theorem i_nopart {ρ h E} {Q : Option Int → Hh → Prop} (q : Q none h) : wNoPart ρ h E Q := q
theorem i_part {t : WE} {ρ h E} {Q : Option Int → Hh → Prop} (q : t ρ h E fun x h1 => ∃ i, x = .int i ∧ Q (some i) h1) : wPart t ρ h E Q := q
/-- what a promise asks and gives -/
theorem FS.use {fs : FS} {vs : List Val} {h : Hh} {E : XQ} {Q : KQ} (p : fs.P) (a : fs.pre p vs h) (b : ∀ v h', fs.post p h v h' → Q v h') (c : ∀ C v h', fs.xpost p h C v h' → E C v h') : fs.sp vs h E Q := ⟨p, a, b, c⟩
theorem i_tg1_0 {c : Option Val} {v : Val} {r : Ev} {Q : Ev → Prop} (q : Q (some v :: r)) : tg1 0 v (wipeV (c :: r) [0]) Q := q
theorem i_tg1_1 {a0 : Option Val} {c : Option Val} {v : Val} {r : Ev} {Q : Ev → Prop} (q : Q (a0 :: some v :: r)) : tg1 1 v (wipeV (a0 :: c :: r) [1]) Q := q
theorem i_tg1_2 {a0 a1 : Option Val} {c : Option Val} {v : Val} {r : Ev} {Q : Ev → Prop} (q : Q (a0 :: a1 :: some v :: r)) : tg1 2 v (wipeV (a0 :: a1 :: c :: r) [2]) Q := q
theorem i_tg1_3 {a0 a1 a2 : Option Val} {c : Option Val} {v : Val} {r : Ev} {Q : Ev → Prop} (q : Q (a0 :: a1 :: a2 :: some v :: r)) : tg1 3 v (wipeV (a0 :: a1 :: a2 :: c :: r) [3]) Q := q
theorem i_tg1_4 {a0 a1 a2 a3 : Option Val} {c : Option Val} {v : Val} {r : Ev} {Q : Ev → Prop} (q : Q (a0 :: a1 :: a2 :: a3 :: some v :: r)) : tg1 4 v (wipeV (a0 :: a1 :: a2 :: a3 :: c :: r) [4]) Q := q
theorem i_tg1_5 {a0 a1 a2 a3 a4 : Option Val} {c : Option Val} {v : Val} {r : Ev} {Q : Ev → Prop} (q : Q (a0 :: a1 :: a2 :: a3 :: a4 :: some v :: r)) : tg1 5 v (wipeV (a0 :: a1 :: a2 :: a3 :: a4 :: c :: r) [5]) Q := q
theorem i_tg1_6 {a0 a1 a2 a3 a4 a5 : Option Val} {c : Option Val} {v : Val} {r : Ev} {Q : Ev → Prop} (q : Q (a0 :: a1 :: a2 :: a3 :: a4 :: a5 :: some v :: r)) : tg1 6 v (wipeV (a0 :: a1 :: a2 :: a3 :: a4 :: a5 :: c :: r) [6]) Q := q
theorem i_tg1_7 {a0 a1 a2 a3 a4 a5 a6 : Option Val} {c : Option Val} {v : Val} {r : Ev} {Q : Ev → Prop} (q : Q (a0 :: a1 :: a2 :: a3 :: a4 :: a5 :: a6 :: some v :: r)) : tg1 7 v (wipeV (a0 :: a1 :: a2 :: a3 :: a4 :: a5 :: a6 :: c :: r) [7]) Q := q
theorem i_tg1_8 {a0 a1 a2 a3 a4 a5 a6 a7 : Option Val} {c : Option Val} {v : Val} {r : Ev} {Q : Ev → Prop} (q : Q (a0 :: a1 :: a2 :: a3 :: a4 :: a5 :: a6 :: a7 :: some v :: r)) : tg1 8 v (wipeV (a0 :: a1 :: a2 :: a3 :: a4 :: a5 :: a6 :: a7 :: c :: r) [8]) Q := q
theorem i_tg1_9 {a0 a1 a2 a3 a4 a5 a6 a7 a8 : Option Val} {c : Option Val} {v : Val} {r : Ev} {Q : Ev → Prop} (q : Q (a0 :: a1 :: a2 :: a3 :: a4 :: a5 :: a6 :: a7 :: a8 :: some v :: r)) : tg1 9 v (wipeV (a0 :: a1 :: a2 :: a3 :: a4 :: a5 :: a6 :: a7 :: a8 :: c :: r) [9]) Q := q
theorem i_tg1_10 {a0 a1 a2 a3 a4 a5 a6 a7 a8 a9 : Option Val} {c : Option Val} {v : Val} {r : Ev} {Q : Ev → Prop} (q : Q (a0 :: a1 :: a2 :: a3 :: a4 :: a5 :: a6 :: a7 :: a8 :: a9 :: some v :: r)) : tg1 10 v (wipeV (a0 :: a1 :: a2 :: a3 :: a4 :: a5 :: a6 :: a7 :: a8 :: a9 :: c :: r) [10]) Q := q
theorem i_tg1_11 {a0 a1 a2 a3 a4 a5 a6 a7 a8 a9 a10 : Option Val} {c : Option Val} {v : Val} {r : Ev} {Q : Ev → Prop} (q : Q (a0 :: a1 :: a2 :: a3 :: a4 :: a5 :: a6 :: a7 :: a8 :: a9 :: a10 :: some v :: r)) : tg1 11 v (wipeV (a0 :: a1 :: a2 :: a3 :: a4 :: a5 :: a6 :: a7 :: a8 :: a9 :: a10 :: c :: r) [11]) Q := q
theorem i_tg1_12 {a0 a1 a2 a3 a4 a5 a6 a7 a8 a9 a10 a11 : Option Val} {c : Option Val} {v : Val} {r : Ev} {Q : Ev → Prop} (q : Q (a0 :: a1 :: a2 :: a3 :: a4 :: a5 :: a6 :: a7 :: a8 :: a9 :: a10 :: a11 :: some v :: r)) : tg1 12 v (wipeV (a0 :: a1 :: a2 :: a3 :: a4 :: a5 :: a6 :: a7 :: a8 :: a9 :: a10 :: a11 :: c :: r) [12]) Q := q
theorem i_tg1_13 {a0 a1 a2 a3 a4 a5 a6 a7 a8 a9 a10 a11 a12 : Option Val} {c : Option Val} {v : Val} {r : Ev} {Q : Ev → Prop} (q : Q (a0 :: a1 :: a2 :: a3 :: a4 :: a5 :: a6 :: a7 :: a8 :: a9 :: a10 :: a11 :: a12 :: some v :: r)) : tg1 13 v (wipeV (a0 :: a1 :: a2 :: a3 :: a4 :: a5 :: a6 :: a7 :: a8 :: a9 :: a10 :: a11 :: a12 :: c :: r) [13]) Q := q
theorem i_tg1_14 {a0 a1 a2 a3 a4 a5 a6 a7 a8 a9 a10 a11 a12 a13 : Option Val} {c : Option Val} {v : Val} {r : Ev} {Q : Ev → Prop} (q : Q (a0 :: a1 :: a2 :: a3 :: a4 :: a5 :: a6 :: a7 :: a8 :: a9 :: a10 :: a11 :: a12 :: a13 :: some v :: r)) : tg1 14 v (wipeV (a0 :: a1 :: a2 :: a3 :: a4 :: a5 :: a6 :: a7 :: a8 :: a9 :: a10 :: a11 :: a12 :: a13 :: c :: r) [14]) Q := q
theorem i_tg1_15 {a0 a1 a2 a3 a4 a5 a6 a7 a8 a9 a10 a11 a12 a13 a14 : Option Val} {c : Option Val} {v : Val} {r : Ev} {Q : Ev → Prop} (q : Q (a0 :: a1 :: a2 :: a3 :: a4 :: a5 :: a6 :: a7 :: a8 :: a9 :: a10 :: a11 :: a12 :: a13 :: a14 :: some v :: r)) : tg1 15 v (wipeV (a0 :: a1 :: a2 :: a3 :: a4 :: a5 :: a6 :: a7 :: a8 :: a9 :: a10 :: a11 :: a12 :: a13 :: a14 :: c :: r) [15]) Q := q
theorem i_tg1_16 {a0 a1 a2 a3 a4 a5 a6 a7 a8 a9 a10 a11 a12 a13 a14 a15 : Option Val} {c : Option Val} {v : Val} {r : Ev} {Q : Ev → Prop} (q : Q (a0 :: a1 :: a2 :: a3 :: a4 :: a5 :: a6 :: a7 :: a8 :: a9 :: a10 :: a11 :: a12 :: a13 :: a14 :: a15 :: some v :: r)) : tg1 16 v (wipeV (a0 :: a1 :: a2 :: a3 :: a4 :: a5 :: a6 :: a7 :: a8 :: a9 :: a10 :: a11 :: a12 :: a13 :: a14 :: a15 :: c :: r) [16]) Q := q
theorem i_tg1_17 {a0 a1 a2 a3 a4 a5 a6 a7 a8 a9 a10 a11 a12 a13 a14 a15 a16 : Option Val} {c : Option Val} {v : Val} {r : Ev} {Q : Ev → Prop} (q : Q (a0 :: a1 :: a2 :: a3 :: a4 :: a5 :: a6 :: a7 :: a8 :: a9 :: a10 :: a11 :: a12 :: a13 :: a14 :: a15 :: a16 :: some v :: r)) : tg1 17 v (wipeV (a0 :: a1 :: a2 :: a3 :: a4 :: a5 :: a6 :: a7 :: a8 :: a9 :: a10 :: a11 :: a12 :: a13 :: a14 :: a15 :: a16 :: c :: r) [17]) Q := q
theorem i_tg1_18 {a0 a1 a2 a3 a4 a5 a6 a7 a8 a9 a10 a11 a12 a13 a14 a15 a16 a17 : Option Val} {c : Option Val} {v : Val} {r : Ev} {Q : Ev → Prop} (q : Q (a0 :: a1 :: a2 :: a3 :: a4 :: a5 :: a6 :: a7 :: a8 :: a9 :: a10 :: a11 :: a12 :: a13 :: a14 :: a15 :: a16 :: a17 :: some v :: r)) : tg1 18 v (wipeV (a0 :: a1 :: a2 :: a3 :: a4 :: a5 :: a6 :: a7 :: a8 :: a9 :: a10 :: a11 :: a12 :: a13 :: a14 :: a15 :: a16 :: a17 :: c :: r) [18]) Q := q
theorem i_tg1_19 {a0 a1 a2 a3 a4 a5 a6 a7 a8 a9 a10 a11 a12 a13 a14 a15 a16 a17 a18 : Option Val} {c : Option Val} {v : Val} {r : Ev} {Q : Ev → Prop} (q : Q (a0 :: a1 :: a2 :: a3 :: a4 :: a5 :: a6 :: a7 :: a8 :: a9 :: a10 :: a11 :: a12 :: a13 :: a14 :: a15 :: a16 :: a17 :: a18 :: some v :: r)) : tg1 19 v (wipeV (a0 :: a1 :: a2 :: a3 :: a4 :: a5 :: a6 :: a7 :: a8 :: a9 :: a10 :: a11 :: a12 :: a13 :: a14 :: a15 :: a16 :: a17 :: a18 :: c :: r) [19]) Q := q
theorem i_tg1_20 {a0 a1 a2 a3 a4 a5 a6 a7 a8 a9 a10 a11 a12 a13 a14 a15 a16 a17 a18 a19 : Option Val} {c : Option Val} {v : Val} {r : Ev} {Q : Ev → Prop} (q : Q (a0 :: a1 :: a2 :: a3 :: a4 :: a5 :: a6 :: a7 :: a8 :: a9 :: a10 :: a11 :: a12 :: a13 :: a14 :: a15 :: a16 :: a17 :: a18 :: a19 :: some v :: r)) : tg1 20 v (wipeV (a0 :: a1 :: a2 :: a3 :: a4 :: a5 :: a6 :: a7 :: a8 :: a9 :: a10 :: a11 :: a12 :: a13 :: a14 :: a15 :: a16 :: a17 :: a18 :: a19 :: c :: r) [20]) Q := q
theorem i_tg1_21 {a0 a1 a2 a3 a4 a5 a6 a7 a8 a9 a10 a11 a12 a13 a14 a15 a16 a17 a18 a19 a20 : Option Val} {c : Option Val} {v : Val} {r : Ev} {Q : Ev → Prop} (q : Q (a0 :: a1 :: a2 :: a3 :: a4 :: a5 :: a6 :: a7 :: a8 :: a9 :: a10 :: a11 :: a12 :: a13 :: a14 :: a15 :: a16 :: a17 :: a18 :: a19 :: a20 :: some v :: r)) : tg1 21 v (wipeV (a0 :: a1 :: a2 :: a3 :: a4 :: a5 :: a6 :: a7 :: a8 :: a9 :: a10 :: a11 :: a12 :: a13 :: a14 :: a15 :: a16 :: a17 :: a18 :: a19 :: a20 :: c :: r) [21]) Q := q
theorem i_tg1_22 {a0 a1 a2 a3 a4 a5 a6 a7 a8 a9 a10 a11 a12 a13 a14 a15 a16 a17 a18 a19 a20 a21 : Option Val} {c : Option Val} {v : Val} {r : Ev} {Q : Ev → Prop} (q : Q (a0 :: a1 :: a2 :: a3 :: a4 :: a5 :: a6 :: a7 :: a8 :: a9 :: a10 :: a11 :: a12 :: a13 :: a14 :: a15 :: a16 :: a17 :: a18 :: a19 :: a20 :: a21 :: some v :: r)) : tg1 22 v (wipeV (a0 :: a1 :: a2 :: a3 :: a4 :: a5 :: a6 :: a7 :: a8 :: a9 :: a10 :: a11 :: a12 :: a13 :: a14 :: a15 :: a16 :: a17 :: a18 :: a19 :: a20 :: a21 :: c :: r) [22]) Q := q
theorem i_tg1_23 {a0 a1 a2 a3 a4 a5 a6 a7 a8 a9 a10 a11 a12 a13 a14 a15 a16 a17 a18 a19 a20 a21 a22 : Option Val} {c : Option Val} {v : Val} {r : Ev} {Q : Ev → Prop} (q : Q (a0 :: a1 :: a2 :: a3 :: a4 :: a5 :: a6 :: a7 :: a8 :: a9 :: a10 :: a11 :: a12 :: a13 :: a14 :: a15 :: a16 :: a17 :: a18 :: a19 :: a20 :: a21 :: a22 :: some v :: r)) : tg1 23 v (wipeV (a0 :: a1 :: a2 :: a3 :: a4 :: a5 :: a6 :: a7 :: a8 :: a9 :: a10 :: a11 :: a12 :: a13 :: a14 :: a15 :: a16 :: a17 :: a18 :: a19 :: a20 :: a21 :: a22 :: c :: r) [23]) Q := q
theorem g_tg1 {i j : Nat} {v : Val} {ρ : Ev} {Q : Ev → Prop} (q : tg1 i v (wipeV ρ [j]) Q) : tg1 i v (wipeV ρ [j]) Q := q
theorem i_yes {ρ h E} {Q : Bool → Hh → Prop} (q : Q true h) : wYes ρ h E Q := q
theorem g_isi {vs : List Val} {h : Hh} {Q : KQ} (q : cIsi vs h Q) : cIsi vs h Q := q
theorem i_isi_non_bool {h : Hh} {Q : KQ} (q : Q (.bl false) h) : cIsi [.non, .ty "bool"] h Q := i_isi (.non : TyN h (.non) "NoneType") (by decide +kernel) q
theorem i_isi_non_int {h : Hh} {Q : KQ} (q : Q (.bl false) h) : cIsi [.non, .ty "int"] h Q := i_isi (.non : TyN h (.non) "NoneType") (by decide +kernel) q
theorem i_isi_non_str {h : Hh} {Q : KQ} (q : Q (.bl false) h) : cIsi [.non, .ty "str"] h Q := i_isi (.non : TyN h (.non) "NoneType") (by decide +kernel) q
theorem i_isi_non_list {h : Hh} {Q : KQ} (q : Q (.bl false) h) : cIsi [.non, .ty "list"] h Q := i_isi (.non : TyN h (.non) "NoneType") (by decide +kernel) q
theorem i_isi_non_tuple {h : Hh} {Q : KQ} (q : Q (.bl false) h) : cIsi [.non, .ty "tuple"] h Q := i_isi (.non : TyN h (.non) "NoneType") (by decide +kernel) q
theorem i_isi_bl_bool {b : Bool} {h : Hh} {Q : KQ} (q : Q (.bl true) h) : cIsi [.bl b, .ty "bool"] h Q := i_isi (.bl b : TyN h (.bl b) "bool") (by decide +kernel) q
theorem i_isi_bl_int {b : Bool} {h : Hh} {Q : KQ} (q : Q (.bl true) h) : cIsi [.bl b, .ty "int"] h Q := i_isi (.bl b : TyN h (.bl b) "bool") (by decide +kernel) q
theorem i_isi_bl_str {b : Bool} {h : Hh} {Q : KQ} (q : Q (.bl false) h) : cIsi [.bl b, .ty "str"] h Q := i_isi (.bl b : TyN h (.bl b) "bool") (by decide +kernel) q
theorem i_isi_bl_list {b : Bool} {h : Hh} {Q : KQ} (q : Q (.bl false) h) : cIsi [.bl b, .ty "list"] h Q := i_isi (.bl b : TyN h (.bl b) "bool") (by decide +kernel) q
theorem i_isi_bl_tuple {b : Bool} {h : Hh} {Q : KQ} (q : Q (.bl false) h) : cIsi [.bl b, .ty "tuple"] h Q := i_isi (.bl b : TyN h (.bl b) "bool") (by decide +kernel) q
theorem i_isi_int_bool {i : Int} {h : Hh} {Q : KQ} (q : Q (.bl false) h) : cIsi [.int i, .ty "bool"] h Q := i_isi (.int i : TyN h (.int i) "int") (by decide +kernel) q
theorem i_isi_int_int {i : Int} {h : Hh} {Q : KQ} (q : Q (.bl true) h) : cIsi [.int i, .ty "int"] h Q := i_isi (.int i : TyN h (.int i) "int") (by decide +kernel) q
theorem i_isi_int_str {i : Int} {h : Hh} {Q : KQ} (q : Q (.bl false) h) : cIsi [.int i, .ty "str"] h Q := i_isi (.int i : TyN h (.int i) "int") (by decide +kernel) q
theorem i_isi_int_list {i : Int} {h : Hh} {Q : KQ} (q : Q (.bl false) h) : cIsi [.int i, .ty "list"] h Q := i_isi (.int i : TyN h (.int i) "int") (by decide +kernel) q
theorem i_isi_int_tuple {i : Int} {h : Hh} {Q : KQ} (q : Q (.bl false) h) : cIsi [.int i, .ty "tuple"] h Q := i_isi (.int i : TyN h (.int i) "int") (by decide +kernel) q
theorem i_isi_str_bool {z : Str} {h : Hh} {Q : KQ} (q : Q (.bl false) h) : cIsi [.str z, .ty "bool"] h Q := i_isi (.str z : TyN h (.str z) "str") (by decide +kernel) q
theorem i_isi_str_int {z : Str} {h : Hh} {Q : KQ} (q : Q (.bl false) h) : cIsi [.str z, .ty "int"] h Q := i_isi (.str z : TyN h (.str z) "str") (by decide +kernel) q
theorem i_isi_str_str {z : Str} {h : Hh} {Q : KQ} (q : Q (.bl true) h) : cIsi [.str z, .ty "str"] h Q := i_isi (.str z : TyN h (.str z) "str") (by decide +kernel) q
theorem i_isi_str_list {z : Str} {h : Hh} {Q : KQ} (q : Q (.bl false) h) : cIsi [.str z, .ty "list"] h Q := i_isi (.str z : TyN h (.str z) "str") (by decide +kernel) q
theorem i_isi_str_tuple {z : Str} {h : Hh} {Q : KQ} (q : Q (.bl false) h) : cIsi [.str z, .ty "tuple"] h Q := i_isi (.str z : TyN h (.str z) "str") (by decide +kernel) q
theorem i_isi_tup_bool {xs : List Val} {h : Hh} {Q : KQ} (q : Q (.bl false) h) : cIsi [.tup xs, .ty "bool"] h Q := i_isi (.tup xs : TyN h (.tup xs) "tuple") (by decide +kernel) q
theorem i_isi_tup_int {xs : List Val} {h : Hh} {Q : KQ} (q : Q (.bl false) h) : cIsi [.tup xs, .ty "int"] h Q := i_isi (.tup xs : TyN h (.tup xs) "tuple") (by decide +kernel) q
theorem i_isi_tup_str {xs : List Val} {h : Hh} {Q : KQ} (q : Q (.bl false) h) : cIsi [.tup xs, .ty "str"] h Q := i_isi (.tup xs : TyN h (.tup xs) "tuple") (by decide +kernel) q
theorem i_isi_tup_list {xs : List Val} {h : Hh} {Q : KQ} (q : Q (.bl false) h) : cIsi [.tup xs, .ty "list"] h Q := i_isi (.tup xs : TyN h (.tup xs) "tuple") (by decide +kernel) q
theorem i_isi_tup_tuple {xs : List Val} {h : Hh} {Q : KQ} (q : Q (.bl true) h) : cIsi [.tup xs, .ty "tuple"] h Q := i_isi (.tup xs : TyN h (.tup xs) "tuple") (by decide +kernel) q
theorem i_isi_lst_bool {xs : List Val} {h : Hh} {Q : KQ} (q : Q (.bl false) h) : cIsi [.lst xs, .ty "bool"] h Q := i_isi (.lst (.lst xs) : TyN h (.lst xs) "list") (by decide +kernel) q
theorem i_isi_lst_int {xs : List Val} {h : Hh} {Q : KQ} (q : Q (.bl false) h) : cIsi [.lst xs, .ty "int"] h Q := i_isi (.lst (.lst xs) : TyN h (.lst xs) "list") (by decide +kernel) q
theorem i_isi_lst_str {xs : List Val} {h : Hh} {Q : KQ} (q : Q (.bl false) h) : cIsi [.lst xs, .ty "str"] h Q := i_isi (.lst (.lst xs) : TyN h (.lst xs) "list") (by decide +kernel) q
theorem i_isi_lst_list {xs : List Val} {h : Hh} {Q : KQ} (q : Q (.bl true) h) : cIsi [.lst xs, .ty "list"] h Q := i_isi (.lst (.lst xs) : TyN h (.lst xs) "list") (by decide +kernel) q
theorem i_isi_lst_tuple {xs : List Val} {h : Hh} {Q : KQ} (q : Q (.bl false) h) : cIsi [.lst xs, .ty "tuple"] h Q := i_isi (.lst (.lst xs) : TyN h (.lst xs) "list") (by decide +kernel) q
theorem i_chain {r r' : W2} {ta tb tc : WE} {ρ h E} {Q : KQ} (q : ta ρ h E fun x h1 => tb ρ h1 E fun y h2 => r x y h2 fun z h3 => ∃ k, z = .bl k ∧ if k = true then tc ρ h3 E fun u h4 => r' y u h4 Q else Q (.bl false) h3) : wChain r r' ta tb tc ρ h E Q := q
theorem g_var {i : Nat} {ρ : Ev} {h E} {Q : KQ} (q : wVar i ρ h E Q) : wVar i ρ h E Q := q
theorem g_name {i : Nat} {v : Val} {ρ : Ev} {h} {Q : EH} (q : wgName i v ρ h Q) : wgName i v ρ h Q := q
theorem g_if {b : Bool} {A B : Prop} (q : if b = true then A else B) : if b = true then A else B := q
/-! loops -/
def ForI (xs : List Val) (chk : Hh → Prop) (g : WG) (tb : WS) (nx : EH) (rt : KQ) (xe : XS) (ρ : Ev) (h : Hh) : Prop := ∃ I : Nat → EH, I 0 ρ h ∧ ∀ i ρ h, I i ρ h → chk h ∧ (xs.length ≤ i → nx ρ h) ∧
  ∀ x, xs[i]? = some x → g x ρ h fun ρ2 h2 => tb (I (i + 1)) rt nx (I (i + 1)) xe ρ2 h2
theorem i_for {wi : WI} {g : WG} {tb : WS} {nx rt bk ct xe ρ h} (q : wi ρ h (atx xe ρ) fun xs chk h1 => ForI xs chk g tb nx rt xe ρ h1) : wFor wi g tb nx rt bk ct xe ρ h := q
theorem for_inv {xs : List Val} {chk : Hh → Prop} {g : WG} {tb : WS} {nx : EH} {rt : KQ} {xe : XS} {ρ : Ev} {h : Hh} (I : Nat → EH) (h0 : I 0 ρ h) (st : ∀ i ρ h, I i ρ h → chk h ∧ (xs.length ≤ i → nx ρ h) ∧
  ∀ x, xs[i]? = some x → g x ρ h fun ρ2 h2 => tb (I (i + 1)) rt nx (I (i + 1)) xe ρ2 h2) : ForI xs chk g tb nx rt xe ρ h := ⟨I, h0, st⟩
def WhileI (c : WT) (tb : WS) (nx : EH) (rt : KQ) (xe : XS) (ρ : Ev) (h : Hh) : Prop := ∃ I : Nat → EH, (∃ m, I m ρ h) ∧ ∀ m ρ h, I m ρ h → c ρ h (atx xe ρ) fun b h1 =>
  if b = true then tb (fun ρ2 h2 => ∃ m2, m2 < m ∧ I m2 ρ2 h2) rt nx (fun ρ2 h2 => ∃ m2, m2 < m ∧ I m2 ρ2 h2) xe ρ h1 else nx ρ h1
theorem i_while {c : WT} {tb : WS} {nx rt bk ct xe ρ h} (q : WhileI c tb nx rt xe ρ h) : wWhile c tb nx rt bk ct xe ρ h := q
theorem while_inv {c : WT} {tb : WS} {nx : EH} {rt : KQ} {xe : XS} {ρ : Ev} {h : Hh} (I : Nat → EH) (m0 : Nat) (h0 : I m0 ρ h) (st : ∀ m ρ h, I m ρ h → c ρ h (atx xe ρ) fun b h1 =>
  if b = true then tb (fun ρ2 h2 => ∃ m2, m2 < m ∧ I m2 ρ2 h2) rt nx (fun ρ2 h2 => ∃ m2, m2 < m ∧ I m2 ρ2 h2) xe ρ h1 else nx ρ h1) : WhileI c tb nx rt xe ρ h := ⟨I, ⟨m0, h0⟩, st⟩
theorem lc_inv {tg : Val → Ev → (Ev → Prop) → Prop} {xs : List Val} {chk : Hh → Prop} {tt : WT} {te : WE} {vs : List Nat} {ρ : Ev} {h : Hh} {Q : KQ} (I : Nat → List Val → Hh → Prop) (h0 : I 0 [] h)
    (st : ∀ i acc h, I i acc h → chk h ∧ (xs.length ≤ i → NewL acc h Q) ∧ ∀ x, xs[i]? = some x → tg x (wipeV ρ vs) fun ρ2 =>
      tt ρ2 h (fun _ _ _ => False) fun b h3 => if b = true then te ρ2 h3 (fun _ _ _ => False) (fun y h4 => acc.length < 16000000 ∧ I (i + 1) (acc ++ [y]) h4) else I (i + 1) acc h3) : wLcB tg xs chk tt te vs ρ h Q := ⟨I, h0, st⟩
/-- a list comprehension whose element changes nothing -/
theorem lc_map {tg : Val → Ev → (Ev → Prop) → Prop} {xs : List Val} {chk : Hh → Prop} {te : WE} {vs : List Nat} {ρ : Ev} {h : Hh} {Q : KQ} (f : Val → Val) (hl : xs.length ≤ 16000000) (hc : chk h)
    (st : ∀ x, x ∈ xs → tg x (wipeV ρ vs) fun ρ2 => ∀ Q : KQ, Q (f x) h → te ρ2 h (fun _ _ _ => False) Q) (mono : ∀ x ρ (Q Q' : Ev → Prop), (∀ ρ, Q ρ → Q' ρ) → tg x ρ Q → tg x ρ Q') (q : NewL (xs.map f) h Q) : wLcB tg xs chk wYes te vs ρ h Q := by
  refine lc_inv (fun i acc h' => h' = h ∧ i ≤ xs.length ∧ acc = (xs.take i).map f) ⟨rfl, Nat.zero_le _, by simp⟩ ?_
  rintro i acc h' ⟨rfl, hi, rfl⟩
  refine ⟨hc, fun hl => ?_, fun x hx => ?_⟩
  · have e : i = xs.length := by omega
    subst e
    rw [List.take_length]
    exact q
  · obtain ⟨hi2, e⟩ := List.getElem?_eq_some_iff.mp hx
    refine mono _ _ _ _ (fun ρ2 z => ?_) (st x (List.mem_of_getElem? hx))
    refine i_yes ?_
    rw [if_pos rfl]
    refine z _ ⟨?_, rfl, hi2, ?_⟩
    · simp; omega
    · rw [List.take_succ, hx]
      simp
theorem tg1_mono {i : Nat} : ∀ x ρ (Q Q' : Ev → Prop), (∀ ρ, Q ρ → Q' ρ) → tg1 i x ρ Q → tg1 i x ρ Q' := fun _ _ _ _ k q => k _ q
theorem tg2_mono {i j : Nat} : ∀ x ρ (Q Q' : Ev → Prop), (∀ ρ, Q ρ → Q' ρ) → tg2 i j x ρ Q → tg2 i j x ρ Q' := fun _ _ _ _ k ⟨a, b, e, q⟩ => ⟨a, b, e, k _ q⟩
theorem i_rng {n : Int} {G : List Val → (Hh → Prop) → Hh → Prop} {h : Hh} (a : 0 ≤ n) (b : n < 4611686018427387904) (q : G (rng 0 n.toNat) (fun _ => True) h) : ∃ j : Int, Val.int n = .int j ∧ -(2 ^ 62) ≤ j ∧ j < 2 ^ 62 ∧ G (rng 0 j.toNat) (fun _ => True) h := ⟨n, rfl, by omega, by omega, q⟩
theorem i_rngB {n : Int} {A : Prop} (a : 0 ≤ n) (b : n < 4611686018427387904) (q : A) : -(2 ^ 62) ≤ n ∧ n < 2 ^ 62 ∧ A := ⟨by omega, by omega, q⟩
theorem map_get {α : Type} {f : α → Val} {xs : List α} {i : Nat} {z : Val} (h : (xs.map f)[i]? = some z) : ∃ c, xs[i]? = some c ∧ z = f c := by
  rw [List.getElem?_map] at h
  cases e : xs[i]? with
  | none => rw [e] at h; cases h
  | some c => rw [e] at h; exact ⟨c, rfl, (Option.some.inj h).symm⟩
/-- data of ints -/
theorem dvs_ints {h : Hh} : ∀ ns : List Int, Dvs h (ns.map Val.int) (ns.map PyData.int)
  | [] => .nil
  | n :: ns => .cons (.int n) (dvs_ints ns)
theorem canLay_ints : ∀ ns : List Int, PyData.canLayAll0 (ns.map PyData.int) = true
  | [] => by simp [PyData.canLayAll0]
  | n :: ns => by simp [PyData.canLayAll0, PyData.canLay0, canLay_ints ns]
/-! ZA -/
/-! len of an own instance -/
section
variable {X : Cx} {W : WX} {pos : Pos}
def rLenO (C : Addr) (sp : L2.Sp) : List V → Hp → VK → Prop := fun xs H Q => ∃ a dx fs, xs = [V.ref a] ∧ H a = some (.ins C dx fs) ∧ sp [.ref a] H (fun v H' => ∃ n : Int, v = .int n ∧ (0 ≤ n ∧ n < 2 ^ 63) ∧ Q (.int n) H') (fun _ _ _ => False)
theorem call_lenO {k : Nat} {C f : Addr} {fd : FuncData} {ps : List Str} {sp : L2.Sp} {ds : List Value} (F : FnOk X.prog X.w X.K X.mg X.base (L2.CX X.prog X.w) k f fd ps sp) (hm : Meth X.K C "__len__" f) (hb : Binds X.K fd ps []) (hr : Room (k + 1) X.A) : CallR X (.builtin "len") (rLenO C sp) := by
  intro pins s σ H xs us Q I r h
  obtain ⟨a, dx, fs, rfl, ha, hsp⟩ := h
  cases r with
  | cons ra rr =>
    cases rr
    cases ra
    obtain ⟨mA, J, _⟩ := ins_get I.hok ha
    obtain ⟨od, J, _⟩ := J.look
    obtain ⟨m, hF⟩ := I.fr
    refine PySem.W.len_K hF I.ok.mod.kin J hm.at_ hm.fn ?_
    have hl := F.len _ _ _ _ hsp
    have r2 : Vals [V.ref a] [Value.ref a] := .cons rfl .nil
    refine wpAny_call (codeAny_mono (F.run X.A.in1 X.stack s H ⟨[.ref a], []⟩ [.ref a] [.ref a] _ _ hr.in1 I.env0.in1 (by
      have := hb s [.ref a] I.kIn (by simpa using hl)
      simpa using this) r2 hsp) fun r s' hq => ?_)
    cases r with
    | error e => exact passL pins σ H s e s' I hq
    | ok fl =>
      cases fl with
      | ret w =>
        obtain ⟨z, H', I', rz, n, ez, b, q⟩ := I.after hq
        subst ez
        obtain ⟨t, rfl⟩ := rz
        exact ⟨b, .int n, H', I'.tok _, ⟨_, rfl⟩, q⟩
      | next => exact False.elim hq
      | brk => exact False.elim hq
      | cont => exact False.elim hq
def cLenO (C : Addr) (fs : FS) : WC := fun vs h Q => ∃ x fl, vs = [x] ∧ Ins h x C fl ∧ fs.sp [x] h (fun _ _ _ => False) (fun v h' => ∃ n : Int, v = .int n ∧ (0 ≤ n ∧ n < 2 ^ 63) ∧ Q (.int n) h')
theorem s_lenO {K : Fr} {C : Addr} {fs : FS} : SndC K (cLenO C fs) (rLenO C (lSp K fs)) := fun S F H h xs vs Q' Q r rx q lq => by
  obtain ⟨x, fl, rfl, q1, q⟩ := q
  obtain ⟨w, rfl, x1⟩ := rels_1 rx
  obtain ⟨a, dx, gs, e1, e2, e3⟩ := q1.l r x1
  subst e1
  refine ⟨a, dx, gs, rfl, e2, S, F, _, h, _, _, r, rx, q, fun v h' S' w H' q1 s1 r1 x2 => ?_, fun _ _ _ _ _ _ _ z => z.elim⟩
  obtain ⟨n, rfl, b, q1⟩ := q1
  exact ⟨n, rel_int.mp x2, b, lq _ _ _ _ _ q1 s1 r1 (rel_int.mpr rfl)⟩
theorem zlenO {k : Nat} {C : Addr} {ps : List Str} {fs : FS} {p : Pos} {e : Expr} {t : WA} (G : Mt X.prog X.w X.K X.mg X.base C "__len__" k ps [] fs) (hr : Room (k + 1) X.A) (hg : Gl X "len") (hm : X.mg "len" = none) (ha : ZA X W [e] t)
    (he : starEach [e] X.env = (false, eval e X.env) :: starEach [] X.env := by rfl) (hpl : (backTo pos (starEach [] X.env)).any (·.1) = false := by rfl) : ZE X W (.Call (.Name "len" p) [e] [] pos) (wCB (cLenO C fs) t) := by
  obtain ⟨f, fd, dvs, ds, F, hmm, hd, hdv, hb⟩ := G.ex
  have e0 : dvs = [] := rels_nil.mp (hdv fun _ => none)
  subst e0
  cases hd
  exact zcallB (call_lenO (ds := []) F hmm hb hr) s_lenO hg hm PySem.boot_len ha (by decide) (by decide) he hpl
theorem i_lenO {C : Addr} {fs : FS} {fl : List (Str × Val)} {h : Hh} {Q : KQ} (q : fs.sp [.obj C fl] h (fun _ _ _ => False) (fun v h' => ∃ n : Int, v = .int n ∧ (0 ≤ n ∧ n < 2 ^ 63) ∧ Q (.int n) h')) : cLenO C fs [.obj C fl] h Q := ⟨_, _, rfl, .obj C fl, q⟩
theorem i_lenOR {C a : Addr} {fs : FS} {fl : List (Str × Val)} {h : Hh} {Q : KQ} (e : h a = some (.ins C fl)) (q : fs.sp [.ref a] h (fun _ _ _ => False) (fun v h' => ∃ n : Int, v = .int n ∧ (0 ≤ n ∧ n < 2 ^ 63) ∧ Q (.int n) h')) : cLenO C fs [.ref a] h Q := ⟨_, _, rfl, .ref e, q⟩
/-! ### raise of an own class whose __init__ stores what -/
theorem R.sup {K : Fr} {S F H H' : Hp} {h : Hh} (r : R K S F H h) (e : ∀ b o, H b = some o → H' b = some o) : R K S F H' h :=
  ⟨fun a o q => e _ _ (r.sub a o q), fun a o q => ⟨e _ _ (r.frm a o q).1, (r.frm a o q).2⟩, fun a o q => by
    obtain ⟨h1, u, h2, h3⟩ := r.own a o q
    exact ⟨h1, u, e _ _ h2, h3⟩⟩
def spWhat (K : Fr) : L2.Sp := fun vs H Q _ => ∃ a C v, vs = [.ref a, v] ∧ OexC K C ∧ PySem.W.findIn K (.ref C) "what" = some none ∧ H a = some (exo a C none) ∧ ∀ dx, H dx = none → dx ≠ a → Q .non (upd (upd H dx (exd dx [("what", v)])) a (exo a C (some dx)))
structure Ex (P : Program) (w : World) (K : Fr) (mg : Str → Option Value) (base : Heap) (x : Str) (C : Addr) : Prop where
  ex : ∃ (fI : Addr) (fd : FuncData), FnOk P w K mg base CX0 1 fI fd ["self", "what"] (spWhat K) ∧ mg x = some (.ref C) ∧ OexC K C ∧ PySem.W.findIn K (.ref C) "__init__" = some (some (.ref fI)) ∧ PySem.W.typeIn K (.ref fI) = some (.type "function") ∧ Binds K fd ["self", "what"] [] ∧ PySem.W.findIn K (.ref C) "what" = some none
def wRaise (C : Addr) (te : WE) : WS := fun _ _ _ _ xe ρ h => te ρ h (atx xe ρ) fun v h1 => xe C v ρ h1
theorem zs_raise {x : Str} {C : Addr} {e : Expr} {te : WE} {p pos' : Pos} (tk : Takes X W) (hc : X.calm = true) (G : Ex X.prog X.w X.K X.mg X.base x C) (hr : Room 2 X.A) (hg : Gl X x) (ha : ZE X W e te) (hdb : (x == ("__debug__" : Str)) = false := by decide)
    (he : starEach [e] X.env = (false, eval e X.env) :: starEach [] X.env := by rfl) (hpl : (backTo pos (starEach [] X.env)).any (·.1) = false := by rfl) : ZS X W (.Raise (some (.Call (.Name x p) [e] [] pos)) none pos') (wRaise C te) := by
  obtain ⟨fI, fd, F, hm, T, iC, tI, hb, hn⟩ := G.ex
  refine ⟨ps_imp (ps_raise hc tk (pmk_oex T iC tI F hr hb .nil pass0 hg hm (L2.pa_cons ha.pe pa_nil he) hdb he hpl)) fun D σ H ⟨S, Fr, ρ, h, nx, rt, bk, ct, xe, r, rl, q, ln, lr, lb, lc, lx⟩ => ?_⟩
  refine ⟨S, Fr, ρ, h, _, _, r, rl, q, fun v h1 S1 w H1 q1 s1 r1 x1 => ⟨by simp, fun a na => ⟨a, C, w, rfl, T, hn, upd_same, fun dx hdx ne => ⟨rfl, dx, [("what", w)], upd_same, ?_, ?_, ?_⟩⟩⟩, lx.at rl⟩
  · rw [upd_ne ne, upd_same]
  · rw [upd_ne ne] at hdx; exact hdx
  · rw [upd_ne ne] at hdx
    obtain ⟨rF, sF⟩ := r1.frozen (p := dx) (u := .xd [("what", w)]) hdx
    refine lx _ _ _ _ _ w dx σ _ q1 (s1.trans sF) (rF.sup fun b o e => ?_) ((rl.mono s1).mono sF) (Rel.mono sF _ _ x1) upd_same
    by_cases c : b = dx
    · subst c
      rw [upd_same] at e ⊢
      exact e
    · rw [upd_ne c] at e
      have ba : b ≠ a := ne_of_none e na
      rw [upd_ne c, L2.del_ne ba, upd_ne ba, upd_ne c, upd_ne ba]
      exact e
theorem i_raise {C : Addr} {te : WE} {nx rt bk ct xe ρ h} (q : te ρ h (atx xe ρ) fun v h1 => xe C v ρ h1) : wRaise C te nx rt bk ct xe ρ h := q
end
/-- the def __init__(self, what): self.what = what of an error -/
theorem ok_what {P : Program} {w : World} {K : Fr} {mg : Str → Option Value} {base : Heap} {x qual : Str} {params : Arguments} {scope : Scope} {dvs : List V} {kws : List (Str × V)} {f : Addr} {fd : FuncData} {p1 p2 p3 p4 : Pos}
    (F : FunD K x qual params [.Assign [.Attribute (.Name "self" p1) "what" p2] (.Name "what" p3) p4] scope dvs kws f fd) (Sc : FnScope ["self", "what"] ["self", "what"] scope) (k1 : scope.names.lookup ("self" : Str) = some .local) (k2 : scope.names.lookup ("what" : Str) = some .local) : FnOk P w K mg base CX0 1 f fd ["self", "what"] (spWhat K) := by
  refine F.ok Sc (fun vs H Q E ⟨a, C, v, e, _⟩ => by subst e; rfl) fun cdv A outer s H vs Q E hr h => ?_
  obtain ⟨a, C, v, rfl, T, hn, ha, k⟩ := h
  refine ⟨_, pss_one (ps_ost (pv 0 rfl (Or.inl k1)) (pv 1 rfl (Or.inl k2))), ?_⟩
  exact ⟨v, rfl, _, rfl, a, C, rfl, T, hn, .inl ⟨ha, fun dx h1 h2 => k dx h1 h2⟩⟩
/-! ZB -/
/-! calls with keywords -/
/-- the values in the parameters' order: the i-th written one, the j-th keyword's -/
def arr {α : Type} : List (Sum Nat Nat) → List α → List α → List α
  | [], _, _ => []
  | .inl i :: p, vs, zs => (match vs[i]? with
    | some v => v :: arr p vs zs
    | none => arr p vs zs)
  | .inr i :: p, vs, zs => (match zs[i]? with
    | some v => v :: arr p vs zs
    | none => arr p vs zs)
theorem arr_vals {vs zs : List V} {us ws : List Value} (h : Vals vs us) (g : Vals zs ws) : ∀ {perm : List (Sum Nat Nat)}, Vals (arr perm vs zs) (arr perm us ws)
  | [] => .nil
  | .inl i :: perm => by
    have ih := arr_vals h g (perm := perm)
    unfold arr
    cases e : vs[i]? with
    | none => rw [h.none_of e]; exact ih
    | some v => obtain ⟨u, hu, ru⟩ := h.get e; rw [hu]; exact .cons ru ih
  | .inr i :: perm => by
    have ih := arr_vals h g (perm := perm)
    unfold arr
    cases e : zs[i]? with
    | none => rw [g.none_of e]; exact ih
    | some v => obtain ⟨u, hu, ru⟩ := g.get e; rw [hu]; exact .cons ru ih
theorem Rels.none_of {K : Fr} {S : Hp} {xs : List Val} {ws : List V} {i : Nat} (h : Rels K S xs ws) (e : xs[i]? = none) : ws[i]? = none := by
  have := h.length
  rw [List.getElem?_eq_none_iff] at e ⊢
  omega
theorem arr_rels {K : Fr} {S : Hp} {vs zs : List Val} {us ws : List V} (h : Rels K S vs us) (g : Rels K S zs ws) : ∀ {perm : List (Sum Nat Nat)}, Rels K S (arr perm vs zs) (arr perm us ws)
  | [] => rels_nil.mpr rfl
  | .inl i :: perm => by
    have ih := arr_rels h g (perm := perm)
    unfold arr
    cases e : vs[i]? with
    | none => rw [h.none_of e]; exact ih
    | some v => obtain ⟨u, hu, ru⟩ := h.get e; rw [hu]; exact rels_cons.mpr ⟨_, _, rfl, ru, ih⟩
  | .inr i :: perm => by
    have ih := arr_rels h g (perm := perm)
    unfold arr
    cases e : zs[i]? with
    | none => rw [g.none_of e]; exact ih
    | some v => obtain ⟨u, hu, ru⟩ := g.get e; rw [hu]; exact rels_cons.mpr ⟨_, _, rfl, ru, ih⟩
structure FnK (P : Program) (w : World) (K : Fr) (mg : Str → Option Value) (base : Heap) (x : Str) (k : Nat) (ps : List Str) (n : Nat) (ks : List Str) (perm : List (Sum Nat Nat)) (fs : FS) : Prop where
  ex : ∃ (f : Addr) (fd : FuncData), FnOk P w K mg base (L2.CX P w) k f fd ps (lSp K fs) ∧ mg x = some (.ref f) ∧ PySem.W.keepIn K (.ref f) = true ∧ KBn K fd ps n ks (arr perm) (arr perm)
structure CkK (P : Program) (w : World) (K : Fr) (mg : Str → Option Value) (base : Heap) (x : Str) (C : Addr) (k : Nat) (ps : List Str) (n : Nat) (ks : List Str) (perm : List (Sum Nat Nat)) (fs : FS) : Prop where
  ex : ∃ (f : Addr) (fd : FuncData), FnOk P w K mg base (L2.CX P w) k f fd ps (lSp K fs) ∧ mg x = some (.ref C) ∧ Mk K C f ∧ KBn K fd ps (n + 1) ks (arr (.inl 0 :: perm.map fun | .inl i => .inl (i + 1) | .inr j => .inr j)) (arr (.inl 0 :: perm.map fun | .inl i => .inl (i + 1) | .inr j => .inr j))
theorem kbn_of {K : Fr} {x qual : Str} {params : Arguments} {body : List Stmt} {scope : Scope} {kws : List (Str × V)} {f : Addr} {fd : FuncData} {ps : List Str} (F : FunD K x qual params body scope [] kws f fd) (n : Nat) (ks : List Str) (perm : List (Sum Nat Nat))
    (h : ∀ (kV doc pm : Value) (an : Option Addr) (cdv ct : Value) (us ws : List Value), us.length = n → ws.length = ks.length → bindArgs (PySem.W.fnOf x qual params body scope .none kV doc pm an cdv ct) ⟨us, ks.zip ws⟩ = pure (ps.zip (arr perm us ws))) : KBn K fd ps n ks (arr perm) (arr perm) := by
  obtain ⟨oc, od, dV, kV, doc, pm, an, cdv, ct, osl, rfl, lk, hcd, hD, hK⟩ := F.ex
  rcases hD with ⟨_, rfl⟩ | ⟨e, _⟩
  · exact ⟨fun s us ws _ l1 l2 => .of_eq (h kV doc pm an cdv ct us ws l1 l2), fun a b => arr_vals a b⟩
  · exact absurd rfl e
theorem kbn_ofD {K : Fr} {x qual : Str} {params : Arguments} {body : List Stmt} {scope : Scope} {dvs : List V} {kws : List (Str × V)} {f : Addr} {fd : FuncData} {ps : List Str} (F : FunD K x qual params body scope dvs kws f fd) (hd : dvs ≠ []) (n : Nat) (ks : List Str) (perm : List (Sum Nat Nat))
    (h : ∀ (T : Addr) (kV doc pm : Value) (an : Option Addr) (cdv ct : Value) (us its ws : List Value), us.length = n → its.length = dvs.length → ws.length = ks.length →
      ∃ k, bindArgs (PySem.W.fnOf x qual params body scope (.ref T) kV doc pm an cdv ct) ⟨us, ks.zip ws⟩ = seqItems? (.ref T) >>= k ∧ k (some its.toArray) = pure (ps.zip (arr perm us ws))) : KBn K fd ps n ks (arr perm) (arr perm) := by
  obtain ⟨oc, od, dV, kV, doc, pm, an, cdv, ct, osl, rfl, lk, hcd, hD, hK⟩ := F.ex
  rcases hD with ⟨e, _⟩ | ⟨_, T, o, its, m, rfl, lT, oT, rT⟩
  · exact absurd e hd
  · refine ⟨fun s us ws X l1 l2 => ?_, fun a b => arr_vals a b⟩
    obtain ⟨k, e1, e2⟩ := h T kV doc pm an cdv ct us its ws l1 rT.length.symm l2
    refine BindsTo.of_looks fun M => ?_
    rw [e1]
    exact looks_items X lT oT (.of_pure e2)
section
variable {X : Cx} {W : WX} {pos : Pos} {k n : Nat} {x m : Str} {ps ks : List Str} {perm : List (Sum Nat Nat)} {fs : FS} {C : Addr} {p apos : Pos} {e o : Expr} {es : List Expr} {kws : List Keyword} {t tk0 : WA} {ta : WE}
structure ZK (X : Cx) (W : WX) (es : List Keyword) (t : WA) : Prop where
  pk : PK X es (lA X.K W t)
theorem pk_imp {X : Cx} {e : List Keyword} {t t' : L2.TA} (h : PK X e t) (i : ∀ σ H Q, t' σ H Q → t σ H Q) : PK X e t' := ⟨fun w pins s σ H Q I q => h.run w pins s σ H Q I (i _ _ _ q)⟩
theorem zk_nil : ZK X W [] wNil := ⟨pk_imp pk_nil fun σ H Q ⟨S, F, ρ, h, E', Q', r, rl, q, lq, _⟩ => lq [] h S [] H q (Sub.refl S) r (rels_nil.mpr rfl)⟩
theorem zk_cons {nm : Option Str} {kpos : Pos} (ha : ZE X W e ta) (hr : ZK X W kws t) : ZK X W (⟨nm, e, kpos⟩ :: kws) (wCons ta t) :=
  ⟨pk_imp (pk_cons ha.pe hr.pk) fun σ H Q ⟨S, F, ρ, h, E', Q', r, rl, q, lq, lx⟩ =>
    ⟨S, F, ρ, h, E', _, r, rl, q, fun x h1 S1 w H1 q1 s1 r1 x1 => ⟨S1, F, ρ, h1, E', _, r1, rl.mono s1, q1, fun xs h2 S2 ws H2 q2 s2 r2 x2 =>
      lq _ h2 S2 _ H2 q2 (s1.trans s2) r2 (rels_cons.mpr ⟨w, ws, rfl, Rel.mono s2 _ _ x1, x2⟩), lx.mono s1⟩, lx⟩⟩
/-- the written values, then the keywords', at a state -/
def AK (K : Fr) (W : WX) (σ : L2.St) (n m : Nat) (t tk : WA) (R0 : List V → List V → Hp → Prop) (H : Hp) : Prop := lA K W t σ H fun vs H1 => lA K W tk σ H1 fun zs H2 => vs.length = n ∧ zs.length = m ∧ R0 vs zs H2
def wCallK (fs : FS) (n m : Nat) (perm : List (Sum Nat Nat)) (t tk : WA) : WE := fun ρ h E Q => t ρ h E fun vs h1 => tk ρ h1 E fun zs h2 => vs.length = n ∧ zs.length = m ∧ fs.sp (arr perm vs zs) h2 E Q
theorem run_fnKS {CX : CXT} {f : Addr} {fd : FuncData} {sp : L2.Sp} {E : L2.St → XK} {g : List Value → List Value → List Value} {gV : List V → List V → List V} {pins : List (Addr × Obj)} {σ : L2.St} {H : Hp} {s : Shared} {Q : VK} {us ws : List Value} {vs zs : List V} (F : FnOk X.prog X.w X.K X.mg X.base CX k f fd ps sp) (hr : Room k X.A) (hb : KBn X.K fd ps n ks g gV) (hx : PassesAt CX X σ (E σ))
    (I : L2.Inv X pins σ H s) (r : Vals vs us) (rz : Vals zs ws) (l1 : vs.length = n) (l2 : zs.length = ks.length) (h : sp (gV vs zs) H Q (E σ)) : wpAny (model X.prog X.w) X.A (call (.ref f) us (ks.zip ws)) (EP X pins σ Q) X.xe s := by
  have r2 := hb.rel r rz
  refine wpAny_call (codeAny_mono (F.run X.A X.stack s H ⟨us, ks.zip ws⟩ (g us ws) (gV vs zs) Q (E σ) hr I.env0 (hb.to s us ws I.kIn (r.length.symm.trans l1) (rz.length.symm.trans l2)) r2 h) fun r s' hq => ?_)
  cases r with
  | error e => exact hx pins H s e s' I hq
  | ok fl =>
    cases fl with
    | ret u => exact I.after hq
    | next => exact False.elim hq
    | brk => exact False.elim hq
    | cont => exact False.elim hq
theorem zcallK0 (tk : Takes X W) (G : FnK X.prog X.w X.K X.mg X.base x k ps 0 ks perm fs) (hr : Room k X.A) (hg : Gl X x) (hkw : ZK X W kws tk0) (hall : (backToKw pos (keywordEach kws X.env)).all (·.1.isSome) = true := by rfl) (hks : (backToKw pos (keywordEach kws X.env)).filterMap (·.1) = ks := by rfl)
    (hdb : (x == ("__debug__" : Str)) = false := by decide) (hpl : ((backTo pos (starEach [] X.env)).any (·.1) || (backToKw pos (keywordEach kws X.env)).any (·.1.isNone)) = false := by rfl) : ZE X W (.Call (.Name x p) [] kws pos) (wCallK fs 0 ks.length perm wNil tk0) := by
  obtain ⟨f, fd, F, hm, hk, hb⟩ := G.ex
  refine ⟨⟨fun pins s σ H Q I h => ?_⟩⟩
  obtain ⟨S, Fr, ρ, h, E', Q', r, rl, q, lq, lx⟩ := h
  refine wpAny_Call_Name_kw (ld_glob I hg hm ?_ hdb)
  refine PySem.W.callWith_KW0 (h₀ := X.base) I.ok.mod.kin hk hall ?_ hpl
  refine thn (hkw.pk.run pos pins s σ H (fun zs H2 => zs.length = ks.length ∧ lSp X.K fs (arr perm [] zs) H2 Q (L2.WE W σ)) I ⟨S, Fr, ρ, h, E', _, r, rl, q, fun zs h2 S2 ws H2 q2 s2 r2 x2 => ⟨x2.length.symm.trans q2.2.1, lsp_of r2 (arr_rels (rels_nil.mpr rfl) x2) q2.2.2 (lq.mono s2) (lx.mono s2)⟩, lx⟩) fun ws s2 ⟨zs, H2, I2, rz, l2, q2⟩ => ⟨I2.kIn, ?_⟩
  rw [hks]
  exact run_fnKS (us := []) (vs := []) (E := L2.WE W) F hr hb (passAt tk σ) I2 .nil rz rfl l2 q2
theorem zcallK (tk : Takes X W) (G : FnK X.prog X.w X.K X.mg X.base x k ps n ks perm fs) (hr : Room k X.A) (hg : Gl X x) (ha : ZA X W (e :: es) t) (hkw : ZK X W kws tk0) (hall : (backToKw pos (keywordEach kws X.env)).all (·.1.isSome) = true := by rfl) (hks : (backToKw pos (keywordEach kws X.env)).filterMap (·.1) = ks := by rfl)
    (hdb : (x == ("__debug__" : Str)) = false := by decide) (he : starEach (e :: es) X.env = (false, eval e X.env) :: starEach es X.env := by rfl)
    (hpl : ((backTo pos (starEach (e :: es) X.env)).any (·.1) || (backToKw pos (keywordEach kws X.env)).any (·.1.isNone)) = false := by rfl) : ZE X W (.Call (.Name x p) (e :: es) kws pos) (wCallK fs n ks.length perm t tk0) := by
  obtain ⟨f, fd, F, hm, hk, hb⟩ := G.ex
  refine ⟨⟨fun pins s σ H Q I h => ?_⟩⟩
  obtain ⟨S, Fr, ρ, h, E', Q', r, rl, q, lq, lx⟩ := h
  refine wpAny_Call_Name_kw (ld_glob I hg hm ?_ hdb)
  refine PySem.W.callWith_KW (h₀ := X.base) I.ok.mod.kin hk hall (thn (ha.pa.run pos pins s σ H (fun us H1 => ∃ S1 h1 vs, Sub S S1 ∧ R X.K S1 Fr H1 h1 ∧ Rels X.K S1 vs us ∧ tk0 ρ h1 E' fun zs h2 => vs.length = n ∧ zs.length = ks.length ∧ fs.sp (arr perm vs zs) h2 E' Q') I ⟨S, Fr, ρ, h, E', _, r, rl, q, fun vs h1 S1 us H1 q1 s1 r1 x1 => ⟨S1, h1, vs, s1, r1, x1, q1⟩, lx⟩) fun us s1 ⟨vs0, H1, I1, rv, S1, h1, vs, s1, r1, x1, q1⟩ => ?_) hpl he
  refine thn (hkw.pk.run pos pins _ σ H1 (fun zs H2 => vs0.length = n ∧ zs.length = ks.length ∧ lSp X.K fs (arr perm vs0 zs) H2 Q (L2.WE W σ)) I1 ⟨S1, Fr, ρ, h1, E', _, r1, rl.mono s1, q1, fun zs h2 S2 ws H2 q2 s2 r2 x2 => ⟨x1.length.symm.trans q2.1, x2.length.symm.trans q2.2.1, lsp_of r2 (arr_rels (Rels.mono s2 _ _ x1) x2) q2.2.2 ((lq.mono s1).mono s2) ((lx.mono s1).mono s2)⟩, lx.mono s1⟩) fun ws s2 ⟨zs, H2, I2, rz, l1, l2, q2⟩ => ⟨I2.kIn, ?_⟩
  rw [hks]
  exact run_fnKS (E := L2.WE W) F hr hb (passAt tk σ) I2 rv rz l1 l2 q2
theorem i_callK {fs : FS} {n m : Nat} {perm : List (Sum Nat Nat)} {t tk : WA} {ρ h E} {Q : KQ} (q : t ρ h E fun vs h1 => tk ρ h1 E fun zs h2 => vs.length = n ∧ zs.length = m ∧ fs.sp (arr perm vs zs) h2 E Q) : wCallK fs n m perm t tk ρ h E Q := q
theorem i_l2 {a b c d : Nat} {A : Prop} (x : a = b) (y : c = d) (q : A) : a = b ∧ c = d ∧ A := ⟨x, y, q⟩
/-- C(k = v, ..) -/
def wMakeK (C : Addr) (fs : FS) (n m : Nat) (perm : List (Sum Nat Nat)) (t tk : WA) : WE := fun ρ h E Q => t ρ h E fun vs h1 => tk ρ h1 E fun zs h2 => vs.length = n ∧ zs.length = m ∧ ∀ a, h2 a = none → fs.sp (.ref a :: arr perm vs zs) (hup h2 a (.ins C [])) E (fun v h3 => v = .non ∧ MkEnd C a h3 Q)
theorem i_makeK {C : Addr} {fs : FS} {n m : Nat} {perm : List (Sum Nat Nat)} {t tk : WA} {ρ h E} {Q : KQ} (q : t ρ h E fun vs h1 => tk ρ h1 E fun zs h2 => vs.length = n ∧ zs.length = m ∧ ∀ a, h2 a = none → fs.sp (.ref a :: arr perm vs zs) (hup h2 a (.ins C [])) E (fun v h3 => v = .non ∧ MkEnd C a h3 Q)) : wMakeK C fs n m perm t tk ρ h E Q := q
theorem arr_up0 {α : Type} {a : α} {vs zs : List α} : ∀ {perm : List (Sum Nat Nat)}, arr (perm.map fun | .inl i => .inl (i + 1) | .inr j => .inr j) (a :: vs) zs = arr perm vs zs
  | [] => rfl
  | .inl i :: perm => by
    have ih := arr_up0 (a := a) (vs := vs) (zs := zs) (perm := perm)
    show (match (a :: vs)[i + 1]? with
      | some v => v :: arr _ (a :: vs) zs
      | none => arr _ (a :: vs) zs) = _
    rw [List.getElem?_cons_succ, ih]
    rfl
  | .inr i :: perm => by
    have ih := arr_up0 (a := a) (vs := vs) (zs := zs) (perm := perm)
    show (match zs[i]? with
      | some v => v :: arr _ (a :: vs) zs
      | none => arr _ (a :: vs) zs) = _
    rw [ih]
    rfl
theorem arr_up {α : Type} {perm : List (Sum Nat Nat)} {a : α} {vs zs : List α} : arr (.inl 0 :: perm.map fun | .inl i => .inl (i + 1) | .inr j => .inr j) (a :: vs) zs = a :: arr perm vs zs := by
  show a :: arr _ (a :: vs) zs = _
  rw [arr_up0]
theorem run_makeKS {CX : CXT} {f : Addr} {fd : FuncData} {sp : L2.Sp} {E : L2.St → XK} {g : List Value → List Value → List Value} {gV : List V → List V → List V} {pins : List (Addr × Obj)} {σ : L2.St} {H : Hp} {s : Shared} {Q : VK} {us ws : List Value} {vs zs : List V} (M : Mk X.K C f) (F : FnOk X.prog X.w X.K X.mg X.base CX k f fd ps sp) (hr : Room (k + 1) X.A) (hb : KBn X.K fd ps (n + 1) ks g gV) (hx : PassesAt CX X σ (E σ)) (I : L2.Inv X pins σ H s)
    (r : Vals vs us) (rz : Vals zs ws) (l1 : vs.length = n) (l2 : zs.length = ks.length)
    (h : ∀ x dx, H x = none → H dx = none → dx ≠ x → sp (gV (.ref x :: vs) zs) (upd (upd H dx (.own x)) x (.ins C dx [])) (fun v H2 => v = .non ∧ Q (.ref x) H2) (E σ)) :
    wpAny (model X.prog X.w) X.A (call (.ref C) us (ks.zip ws)) (EP X pins σ Q) X.xe s := by
  have hq := h (s.heap.objs.size + 1) s.heap.objs.size (I.hok.fresh (Nat.le_succ _)) (I.hok.fresh (Nat.le_refl _)) (Nat.ne_of_lt (Nat.lt_succ_self _))
  have I2 := L2.Inv.made (C := C) I
  have r1 : Vals (V.ref (s.heap.objs.size + 1) :: vs) (Value.ref (s.heap.objs.size + 1) :: us) := .cons rfl r
  have r2 := hb.rel r1 rz
  have n1 : (Value.ref (s.heap.objs.size + 1) :: us).length = n + 1 := by
    rw [List.length_cons, ← r.length, l1]
  refine wpAny_call (make_map (f := f) I.kIn M.makes M.init (beq_iff_eq.mp M.fn) (codeAny_mono (F.run _ X.stack _ _ ⟨Value.ref (s.heap.objs.size + 1) :: us, ks.zip ws⟩ (g (Value.ref (s.heap.objs.size + 1) :: us) ws) _ _ (E σ) (hr.make C us (ks.zip ws))
    (I2.env0.make C us (ks.zip ws)) (hb.to _ (Value.ref (s.heap.objs.size + 1) :: us) ws I2.kIn n1 (rz.length.symm.trans l2)) r2 hq) fun r s' hq' => ?_))
  cases r with
  | error e => exact hx pins _ _ e s' I2 hq'
  | ok fl =>
    cases fl with
    | ret u =>
      obtain ⟨v, H', I3, rv, ev, q3⟩ := I2.after hq'
      subst ev
      exact ⟨rv, ⟨V.ref (s.heap.objs.size + 1), H', I3, rfl, q3⟩⟩
    | next => exact False.elim hq'
    | brk => exact False.elim hq'
    | cont => exact False.elim hq'
theorem zmakeK0 (tk : Takes X W) (G : CkK X.prog X.w X.K X.mg X.base x C k ps 0 ks perm fs) (hr : Room (k + 1) X.A) (hg : Gl X x) (hkw : ZK X W kws tk0) (hall : (backToKw pos (keywordEach kws X.env)).all (·.1.isSome) = true := by rfl) (hks : (backToKw pos (keywordEach kws X.env)).filterMap (·.1) = ks := by rfl)
    (hdb : (x == ("__debug__" : Str)) = false := by decide) (hpl : ((backTo pos (starEach [] X.env)).any (·.1) || (backToKw pos (keywordEach kws X.env)).any (·.1.isNone)) = false := by rfl) : ZE X W (.Call (.Name x p) [] kws pos) (wMakeK C fs 0 ks.length perm wNil tk0) := by
  obtain ⟨f, fd, F, hm, M, hb⟩ := G.ex
  refine ⟨⟨fun pins s σ H Q I h => ?_⟩⟩
  obtain ⟨S, Fr, ρ, h, E', Q', r, rl, q, lq, lx⟩ := h
  refine wpAny_Call_Name_kw (ld_glob I hg hm ?_ hdb)
  refine PySem.W.callWith_KW0 (h₀ := X.base) I.ok.mod.kin M.kp hall ?_ hpl
  refine thn (hkw.pk.run pos pins s σ H (fun zs H2 => zs.length = ks.length ∧ ∀ x dx, H2 x = none → H2 dx = none → dx ≠ x → lSp X.K fs (.ref x :: arr perm [] zs) (upd (upd H2 dx (.own x)) x (.ins C dx [])) (fun v H3 => v = .non ∧ Q (.ref x) H3) (L2.WE W σ)) I ⟨S, Fr, ρ, h, E', _, r, rl, q, fun zs h2 S2 ws H2 q2 s2 r2 x2 =>
    ⟨x2.length.symm.trans q2.2.1, mk_sp r2 (arr_rels (rels_nil.mpr rfl) x2) q2.2.2 (lq.mono s2) (lx.mono s2)⟩, lx⟩) fun ws s2 ⟨zs, H2, I2, rz, l2, q2⟩ => ⟨I2.kIn, ?_⟩
  rw [hks]
  refine run_makeKS (us := []) (vs := []) (E := L2.WE W) M F hr hb (passAt tk σ) I2 .nil rz rfl l2 fun x dx n nd ne => ?_
  rw [arr_up]
  exact q2 x dx n nd ne
theorem zmakeK (tk : Takes X W) (G : CkK X.prog X.w X.K X.mg X.base x C k ps n ks perm fs) (hr : Room (k + 1) X.A) (hg : Gl X x) (ha : ZA X W (e :: es) t) (hkw : ZK X W kws tk0) (hall : (backToKw pos (keywordEach kws X.env)).all (·.1.isSome) = true := by rfl) (hks : (backToKw pos (keywordEach kws X.env)).filterMap (·.1) = ks := by rfl)
    (hdb : (x == ("__debug__" : Str)) = false := by decide) (he : starEach (e :: es) X.env = (false, eval e X.env) :: starEach es X.env := by rfl)
    (hpl : ((backTo pos (starEach (e :: es) X.env)).any (·.1) || (backToKw pos (keywordEach kws X.env)).any (·.1.isNone)) = false := by rfl) : ZE X W (.Call (.Name x p) (e :: es) kws pos) (wMakeK C fs n ks.length perm t tk0) := by
  obtain ⟨f, fd, F, hm, M, hb⟩ := G.ex
  refine ⟨⟨fun pins s σ H Q I h => ?_⟩⟩
  obtain ⟨S, Fr, ρ, h, E', Q', r, rl, q, lq, lx⟩ := h
  refine wpAny_Call_Name_kw (ld_glob I hg hm ?_ hdb)
  refine PySem.W.callWith_KW (h₀ := X.base) I.ok.mod.kin M.kp hall (thn (ha.pa.run pos pins s σ H (fun us H1 => ∃ S1 h1 vs, Sub S S1 ∧ R X.K S1 Fr H1 h1 ∧ Rels X.K S1 vs us ∧ tk0 ρ h1 E' fun zs h2 => vs.length = n ∧ zs.length = ks.length ∧ ∀ a, h2 a = none → fs.sp (.ref a :: arr perm vs zs) (hup h2 a (.ins C [])) E' (fun v h3 => v = .non ∧ MkEnd C a h3 Q')) I ⟨S, Fr, ρ, h, E', _, r, rl, q, fun vs h1 S1 us H1 q1 s1 r1 x1 => ⟨S1, h1, vs, s1, r1, x1, q1⟩, lx⟩) fun us s1 ⟨vs0, H1, I1, rv, S1, h1, vs, s1, r1, x1, q1⟩ => ?_) hpl he
  refine thn (hkw.pk.run pos pins _ σ H1 (fun zs H2 => vs0.length = n ∧ zs.length = ks.length ∧ ∀ x dx, H2 x = none → H2 dx = none → dx ≠ x → lSp X.K fs (.ref x :: arr perm vs0 zs) (upd (upd H2 dx (.own x)) x (.ins C dx [])) (fun v H3 => v = .non ∧ Q (.ref x) H3) (L2.WE W σ)) I1 ⟨S1, Fr, ρ, h1, E', _, r1, rl.mono s1, q1, fun zs h2 S2 ws H2 q2 s2 r2 x2 => ⟨x1.length.symm.trans q2.1, x2.length.symm.trans q2.2.1, mk_sp r2 (arr_rels (Rels.mono s2 _ _ x1) x2) q2.2.2 ((lq.mono s1).mono s2) ((lx.mono s1).mono s2)⟩, lx.mono s1⟩) fun ws s2 ⟨zs, H2, I2, rz, l1, l2, q2⟩ => ⟨I2.kIn, ?_⟩
  rw [hks]
  refine run_makeKS (E := L2.WE W) M F hr hb (passAt tk σ) I2 rv rz l1 l2 fun x dx n nd ne => ?_
  rw [arr_up]
  exact q2 x dx n nd ne
end
/-! ZC -/
/-! the head's facts: errors too -/
def oexB (K : Fr) (C : Addr) : Bool := match K.lookup C with
  | some ⟨.type c, _, .cls cd, sl⟩ => (match cd.mro, sl.toList with
    | .ref C' :: bm, [_, _, _, _, some (.builtin n), _] => decide (c = "type") && (decide (C' = C) && (decide (n = "ValueError.__new__") && (!cd.hasDel && (cd.hasDict && PySem.HandSPX.refsVE bm))))
    | _, _ => false)
  | _ => false
/-- an error x whose __init__ is y's -/
def exB (K : Fr) (x y : Str) : Bool :=
  oexB K (He.ga K x) && (decide (PySem.W.findIn K (.ref (He.ga K x)) "__setattr__" = some (some (.builtin "object.__setattr__"))) &&
  (decide (PySem.W.subIn K (.ref (He.ga K x)) (.type "BaseException") = some true) && (decide (PySem.W.typeIn K (.ref (He.ga K x)) = some (.type "type")) &&
  (PySem.W.keepIn K (.ref (He.ga K x)) && (decide (PySem.W.findIn K (.ref (He.ga K x)) "__init__" = some (some (.ref (He.fAd K (y, some "__init__"))))) &&
  (decide (PySem.W.typeIn K (.ref (He.fAd K (y, some "__init__"))) = some (.type "function")) && decide (PySem.W.findIn K (.ref (He.ga K x)) "what" = some none)))))))
theorem oexB_ok {K : Fr} {C : Addr} (q : oexB K C = true) : ∃ nm q N bs bm sn sub ab col dd k0 k1 k2 k3 k5, K.lookup C = some (excClassObj nm q C N bs bm true sn sub ab col dd k0 k1 k2 k3 k5 "ValueError.__new__") ∧ PySem.HandSPX.refsVE bm = true := by
  unfold oexB at q
  split at q
  · rename_i c dd cd sl ho
    split at q
    · rename_i C' bm k0 k1 k2 k3 n k5 hm hs
      simp only [Bool.and_eq_true, decide_eq_true_eq, Bool.not_eq_true'] at q
      obtain ⟨rfl, rfl, rfl, hdel, hh, ht⟩ := q
      obtain ⟨nm, bs, mro, ns, qn, hd, sn, sub, ab, col, del⟩ := cd
      dsimp only at hm hdel hh
      subst hm hdel hh
      have hsl : sl = #[k0, k1, k2, k3, some (.builtin "ValueError.__new__"), k5] := by
        obtain ⟨l⟩ := sl
        simp only at hs
        rw [hs]
      subst hsl
      exact ⟨nm, qn, ns, bs, bm, sn, sub, ab, col, dd, k0, k1, k2, k3, k5, ho, ht⟩
    · cases q
  · cases q
structure ExB (K : Fr) (x y : Str) : Prop where
  oex : OexC K (He.ga K x)
  ini : PySem.W.findIn K (.ref (He.ga K x)) "__init__" = some (some (.ref (He.fAd K (y, some "__init__"))))
  typ : PySem.W.typeIn K (.ref (He.fAd K (y, some "__init__"))) = some (.type "function")
  wh : PySem.W.findIn K (.ref (He.ga K x)) "what" = some none
theorem exB_ok {K : Fr} {x y : Str} (q : exB K x y = true) : ExB K x y := by
  unfold exB at q
  simp only [Bool.and_eq_true, decide_eq_true_eq] at q
  obtain ⟨a, b, c, d, e, f, g, h⟩ := q
  exact ⟨⟨oexB_ok a, b, c, d, e⟩, f, g, h⟩
theorem ex_of {P : Program} {w : World} {K : Fr} {mg : Str → Option Value} {base : Heap} {x y : Str} {fd : FuncData} (F : FnOk P w K mg base CX0 1 (He.fAd K (y, some "__init__")) fd ["self", "what"] (spWhat K)) (hm : mg x = some (.ref (He.ga K x))) (e : ExB K x y) (hb : Binds K fd ["self", "what"] []) : Ex P w K mg base x (He.ga K x) :=
  ⟨_, fd, F, hm, e.oex, e.ini, e.typ, hb, e.wh⟩
/-! ### tables of the module: text keys, each value a tuple of texts -/
abbrev TabX : Type := Str × List (Str × List Str)
def tupA (K : Fr) (a : Addr) (zs : List Str) : Bool := match K.lookup a with
  | some ⟨.type c, _, .seq its _, _⟩ => decide (c = "tuple") && (decide (its.size ≤ sizeLine) && He.relAll (zs.map V.str) its.toList)
  | _ => false
theorem tupA_ok {K : Fr} {a : Addr} {zs : List Str} (h : tupA K a zs = true) (H : Hp) : SqT K H a (zs.map V.str) := by
  unfold tupA at h
  split at h
  · rename_i c od its n osl q
    simp only [Bool.and_eq_true, decide_eq_true_eq] at h
    obtain ⟨h1, h2, h3⟩ := h
    exact .inr ⟨_, its, n, q, congrArg Value.type h1, rfl, h2, He.relAll_ok h3⟩
  · cases h
def tabB (K : Fr) (t : TabX) : Bool := t.2.all fun q => match PySem.W.nsIn K (He.ga K t.1) q.1 with
  | some (some (.ref a)) => tupA K a q.2
  | _ => false
structure TabOk (K : Fr) (w : World) (mg : Str → Option Value) (x : Str) (tab : List (Str × List Str)) : Prop where
  ex : ∃ d, mg x = some (.ref d) ∧ ∀ q ∈ tab, ∃ a, KDct K w d q.1 (.ref a) ∧ ∀ S, SqT K S a (q.2.map V.str)
theorem tab_ok {K : Fr} {w : World} {mg : Str → Option Value} {x : Str} {tab : List (Str × List Str)} (hm : mg x = some (.ref (He.ga K x))) (hd : ∃ es n, KDict K w (He.ga K x) es n) (h : tabB K (x, tab) = true) : TabOk K w mg x tab := by
  obtain ⟨es, n, D⟩ := hd
  refine ⟨_, hm, fun q hq => ?_⟩
  have h2 := List.all_eq_true.mp h q hq
  split at h2
  · rename_i a e
    exact ⟨a, ⟨es, n, .ref a, D.at_, D.lit, e, rfl⟩, tupA_ok h2⟩
  · cases h2
theorem lookup_mem2 {tab : List (Str × List Str)} {z : Str} {zs : List Str} (h : tab.lookup z = some zs) : (z, zs) ∈ tab := by
  induction tab with
  | nil => cases h
  | cons p r ih =>
    obtain ⟨a, b⟩ := p
    rw [List.lookup_cons] at h
    cases e : z == a with
    | true =>
      rw [e] at h
      have e2 : b = zs := Option.some.inj h
      rw [beq_iff_eq.mp e, e2]
      exact List.mem_cons_self
    | false =>
      rw [e] at h
      exact List.mem_cons_of_mem _ (ih h)
/-- what an error's class must say -/
structure ErrC (K : Fr) (C : Addr) : Prop where
  g1 : PySem.W.findIn K (.ref C) "__getattribute__" = some (some (.builtin "BaseException.__getattribute__"))
  g2 : PySem.W.findIn K (.ref C) "__getattr__" = some none
  g3 : PySem.W.subIn K (.ref C) (.type "BaseException") = some true
  g4 : PySem.W.hasDictIn K C = true
  g5 : PySem.W.findIn K (.ref C) "__class__" = some (some (.builtin "object.__class__"))
  g6 : PySem.W.specialIn K (.builtin "object.__class__") "__get__" = some (some (.builtin "getset_descriptor.__get__"))
  g7 : PySem.W.takesIn K (.builtin "object.__class__") = some true
  g8 : PySem.W.mroIn K C (.type "object") = some true
  g9 : PySem.W.findIn K (.ref C) "what" = some none
def errB (K : Fr) (C : Addr) : Bool :=
  decide (PySem.W.findIn K (.ref C) "__getattribute__" = some (some (.builtin "BaseException.__getattribute__"))) && (decide (PySem.W.findIn K (.ref C) "__getattr__" = some none) &&
  (decide (PySem.W.subIn K (.ref C) (.type "BaseException") = some true) && (PySem.W.hasDictIn K C && (decide (PySem.W.findIn K (.ref C) "__class__" = some (some (.builtin "object.__class__"))) &&
  (decide (PySem.W.specialIn K (.builtin "object.__class__") "__get__" = some (some (.builtin "getset_descriptor.__get__"))) && (decide (PySem.W.takesIn K (.builtin "object.__class__") = some true) &&
  (decide (PySem.W.mroIn K C (.type "object") = some true) && decide (PySem.W.findIn K (.ref C) "what" = some none))))))))
theorem errB_ok {K : Fr} {C : Addr} (q : errB K C = true) : ErrC K C := by
  unfold errB at q
  simp only [Bool.and_eq_true, decide_eq_true_eq] at q
  obtain ⟨a, b, c, d, e, f, g, h, i⟩ := q
  exact ⟨a, b, c, d, e, f, g, h, i⟩
/-- more facts: an error's class, isinstance of errors -/
inductive Fb where
  | err (x : Str)
  | kit (x y : Str) (b : Bool)
  | kitT (x : Str) (n : String) (b : Bool)
  | any (p : Fr → Bool)
def Fb.ok (K : Fr) : Fb → Bool
  | .err x => errB K (He.ga K x)
  | .kit x y b => decide (PySem.W.kitOne K (.ref (He.ga K x)) (.ref (He.ga K y)) = some b)
  | .kitT x n b => decide (PySem.W.kitOne K (.ref (He.ga K x)) (.type n) = some b)
  | .any p => p K
/-! ### the Hook -/
abbrev AlE : Type := He.AlT × Bool
def tabsE (tb : List TabX) : List He.Tab := tb.map fun t => (fun K => He.ga K t.1, t.2.map (·.1))
def obsE (fa : List He.Fa) (fn : List He.DefD) (tb : List TabX) (xs : List (Str × Str)) (fb : List Fb) (K : Fr) : AlE := (He.obsT fa fn (tabsE tb) K, ((xs.all fun q => exB K q.1 q.2) && tb.all fun t => tabB K t) && fb.all (Fb.ok K))
def valE (fn : List He.DefD) (tb : List TabX) (w : World) : AlE := (He.valT fn (tabsE tb) w, true)
def SaysE (fa : List He.Fa) (fn : List He.DefD) (tb : List TabX) (xs : List (Str × Str)) (fb : List Fb) (w : World) (K : Fr) : Prop := obsE fa fn tb xs fb K = valE fn tb w
def obsEG (n : Nat) (fa : List He.Fa) (fn : List He.DefD) (tb : List TabX) (xs : List (Str × Str)) (fb : List Fb) (g : Addr → Option Obj) : AlE := obsE fa fn tb xs fb (He.frG g (He.asD g n))
def hookE (n : Nat) (fa : List He.Fa) (fn : List He.DefD) (tb : List TabX) (xs : List (Str × Str)) (fb : List Fb) : PySem.W.Hook where
  α := AlE
  obs := fun s => obsEG n fa fn tb xs fb s.heap.get?
  val := fun w => valE fn tb w
  says := fun w h => ∃ K : PySem.W.Frag, K.In h ∧ SaysE fa fn tb xs fb w K
  of := fun _ _ e => ⟨_, He.frG_in, e⟩
  keeps := fun _ _ _ ⟨K, hK, c⟩ k => ⟨K, PySem.W.Frag.In.keeps hK k, c⟩
theorem obsEG_eq {n : Nat} {fa : List He.Fa} {fn : List He.DefD} {tb : List TabX} {xs : List (Str × Str)} {fb : List Fb} {g : Addr → Option Obj} {s : Shared} (h : ∀ a, g a = s.heap.get? a) : obsEG n fa fn tb xs fb g = (hookE n fa fn tb xs fb).obs s := by
  have e : g = s.heap.get? := funext h
  rw [e] <;> rfl
section
variable {fa : List He.Fa} {fn : List He.DefD} {tb : List TabX} {xs : List (Str × Str)} {fb : List Fb} {w : World} {K : Fr}
theorem SaysE.t (c : SaysE fa fn tb xs fb w K) : He.SaysT fa fn (tabsE tb) w K := congrArg (fun z : AlE => z.1) c
theorem SaysE.d (c : SaysE fa fn tb xs fb w K) : He.SaysD fa fn K := c.t.d
theorem SaysE.b0 (c : SaysE fa fn tb xs fb w K) : ((xs.all fun q => exB K q.1 q.2) && tb.all fun t => tabB K t) = true ∧ fb.all (Fb.ok K) = true := Bool.and_eq_true_iff.mp (congrArg (fun z : AlE => z.2) c)
theorem SaysE.b (c : SaysE fa fn tb xs fb w K) : (xs.all fun q => exB K q.1 q.2) = true ∧ (tb.all fun t => tabB K t) = true := Bool.and_eq_true_iff.mp c.b0.1
theorem SaysE.fbk (c : SaysE fa fn tb xs fb w K) (i : Nat) {q : Fb} (h : fb[i]? = some q := by rfl) : q.ok K = true := List.all_eq_true.mp c.b0.2 q (List.mem_of_getElem? h)
theorem SaysE.err (c : SaysE fa fn tb xs fb w K) (i : Nat) {x : Str} (h : fb[i]? = some (.err x) := by rfl) : ErrC K (He.ga K x) := errB_ok (c.fbk i h)
theorem SaysE.kit (c : SaysE fa fn tb xs fb w K) (i : Nat) {x y : Str} {b : Bool} (h : fb[i]? = some (.kit x y b) := by rfl) : PySem.W.kitOne K (.ref (He.ga K x)) (.ref (He.ga K y)) = some b := of_decide_eq_true (c.fbk i h)
theorem SaysE.kitT (c : SaysE fa fn tb xs fb w K) (i : Nat) {x : Str} {n : String} {b : Bool} (h : fb[i]? = some (.kitT x n b) := by rfl) : PySem.W.kitOne K (.ref (He.ga K x)) (.type n) = some b := of_decide_eq_true (c.fbk i h)
theorem SaysE.any (c : SaysE fa fn tb xs fb w K) (i : Nat) {p : Fr → Bool} (h : fb[i]? = some (.any p) := by rfl) : p K = true := c.fbk i h
theorem SaysE.ex (c : SaysE fa fn tb xs fb w K) (i : Nat) {q : Str × Str} (h : xs[i]? = some q := by rfl) : ExB K q.1 q.2 := exB_ok (List.all_eq_true.mp c.b.1 q (List.mem_of_getElem? h))
theorem SaysE.tab (c : SaysE fa fn tb xs fb w K) {mg : Str → Option Value} (i : Nat) {t : TabX} (hm : mg t.1 = some (.ref (He.ga K t.1))) (h : tb[i]? = some t := by rfl) : TabOk K w mg t.1 t.2 :=
  tab_ok hm (c.t.tab i (t := (fun K => He.ga K t.1, t.2.map (·.1))) (by unfold tabsE; rw [List.getElem?_map, h]; rfl)) (List.all_eq_true.mp c.b.2 t (List.mem_of_getElem? h))
end
/-!  -/
end Z
/-! EARLY -/
namespace Z
open PySem PySem.Spec L2
def neoB (C : Addr) (K : Fr) : Bool := decide (PySem.W.findIn K (.ref C) "__ne__" = some (some (.builtin "object.__ne__"))) && decide (PySem.W.mroIn K C (.type "object") = some true)
end Z
namespace Z
open PySem PySem.Spec L2
namespace K03
abbrev Pw : Program := PySem.Challenge.pw_sentahead_k03_things_asked
def top (i : Nat) : Stmt := Pw.main.body.getD i (.Pass ⟨0, 0, 0, 0⟩)
abbrev cl (K : Fr) : Str → Addr := He.ga K
abbrev s_World___eq__ : Stmt := inClass (top 25) 4
abbrev s_is_there : Stmt := top 23
abbrev s_refs_of : Stmt := top 22
abbrev s_is_good : Stmt := top 24
abbrev s_World___init__ : Stmt := inClass (top 25) 0
abbrev s_World___len__ : Stmt := inClass (top 25) 3
abbrev s_ref_text : Stmt := top 15
abbrev s_thing_text : Stmt := top 16
abbrev s_house_text : Stmt := top 17
abbrev s_World___str__ : Stmt := inClass (top 25) 5
abbrev s_law_alike : Stmt := top 34
abbrev s_law_draw : Stmt := top 28
abbrev s_law_great : Stmt := top 36
abbrev s_World_house : Stmt := inClass (top 25) 1
abbrev s_law_house_asked : Stmt := top 39
abbrev s_law_houses_right : Stmt := top 41
abbrev s_law_second : Stmt := top 42
abbrev s_law_ref : Stmt := top 31
abbrev s_World_thing : Stmt := inClass (top 25) 2
abbrev s_law_thing_asked : Stmt := top 38
abbrev s_law_wild_ref : Stmt := top 37
abbrev s_law_things_right : Stmt := top 40
abbrev s_law_told : Stmt := top 35
abbrev s_law_tray : Stmt := top 27
abbrev s_law_sizes : Stmt := top 30
abbrev s_law_any : Stmt := top 29
abbrev s_law_thing : Stmt := top 32
abbrev s_law_world : Stmt := top 33
abbrev s_law : Stmt := top 43
abbrev s_SentError___init__ : Stmt := inClass (top 1) 0
theorem sc_World___eq__ : FnScope ["self", "other"] ["self", "other"] (defScope s_World___eq__) := ⟨rfl, rfl, rfl, by decide +kernel, rfl, by decide +kernel, by decide +kernel⟩
theorem sc_is_there : FnScope ["houses", "ref"] ["houses", "ref"] (defScope s_is_there) := ⟨rfl, rfl, rfl, by decide +kernel, rfl, by decide +kernel, by decide +kernel⟩
theorem sc_refs_of : FnScope ["thing"] ["thing"] (defScope s_refs_of) := ⟨rfl, rfl, rfl, by decide +kernel, rfl, by decide +kernel, by decide +kernel⟩
theorem sc_is_good : FnScope ["houses", "things", "thing", "refs", "ref"] ["houses", "things"] (defScope s_is_good) := ⟨rfl, rfl, rfl, by decide +kernel, rfl, by decide +kernel, by decide +kernel⟩
theorem sc_World___init__ : FnScope ["self", "houses", "things"] ["self", "houses"] (defScope s_World___init__) := ⟨rfl, rfl, rfl, by decide +kernel, rfl, by decide +kernel, by decide +kernel⟩
theorem sc_World___len__ : FnScope ["self"] ["self"] (defScope s_World___len__) := ⟨rfl, rfl, rfl, by decide +kernel, rfl, by decide +kernel, by decide +kernel⟩
theorem sc_ref_text : FnScope ["ref"] ["ref"] (defScope s_ref_text) := ⟨rfl, rfl, rfl, by decide +kernel, rfl, by decide +kernel, by decide +kernel⟩
theorem sc_thing_text : FnScope ["thing", "ref"] ["thing"] (defScope s_thing_text) := ⟨rfl, rfl, rfl, by decide +kernel, rfl, by decide +kernel, by decide +kernel⟩
theorem sc_house_text : FnScope ["things", "thing"] ["things"] (defScope s_house_text) := ⟨rfl, rfl, rfl, by decide +kernel, rfl, by decide +kernel, by decide +kernel⟩
theorem sc_World___str__ : FnScope ["self", "things"] ["self"] (defScope s_World___str__) := ⟨rfl, rfl, rfl, by decide +kernel, rfl, by decide +kernel, by decide +kernel⟩
theorem sc_law_alike : FnScope ["found", "due", "k"] ["found", "due"] (defScope s_law_alike) := ⟨rfl, rfl, rfl, by decide +kernel, rfl, by decide +kernel, by decide +kernel⟩
theorem sc_law_draw : FnScope ["tray", "many", "found", "mixed"] ["tray", "many"] (defScope s_law_draw) := ⟨rfl, rfl, rfl, by decide +kernel, rfl, by decide +kernel, by decide +kernel⟩
theorem sc_law_great : FnScope ["tray", "found", "k"] ["tray"] (defScope s_law_great) := ⟨rfl, rfl, rfl, by decide +kernel, rfl, by decide +kernel, by decide +kernel⟩
theorem sc_World_house : FnScope ["self", "number"] ["self", "number"] (defScope s_World_house) := ⟨rfl, rfl, rfl, by decide +kernel, rfl, by decide +kernel, by decide +kernel⟩
theorem sc_law_house_asked : FnScope ["world", "spot", "found", "refused", "e"] ["world", "spot"] (defScope s_law_house_asked) := ⟨rfl, rfl, rfl, by decide +kernel, rfl, by decide +kernel, by decide +kernel⟩
theorem sc_law_houses_right : FnScope ["tray", "world", "houses", "great", "many", "spot", "found", "refused", "there"] ["tray", "world", "houses"] (defScope s_law_houses_right) := ⟨rfl, rfl, rfl, by decide +kernel, rfl, by decide +kernel, by decide +kernel⟩
theorem sc_law_second : FnScope ["tray", "houses", "way", "at", "things", "found", "spot", "sizes", "last", "kept"] ["tray", "houses"] (defScope s_law_second) := ⟨rfl, rfl, rfl, by decide +kernel, rfl, by decide +kernel, by decide +kernel⟩
theorem sc_law_ref : FnScope ["tray", "sizes", "at", "house", "size"] ["tray", "sizes"] (defScope s_law_ref) := ⟨rfl, rfl, rfl, by decide +kernel, rfl, by decide +kernel, by decide +kernel⟩
theorem sc_World_thing : FnScope ["self", "ref"] ["self", "ref"] (defScope s_World_thing) := ⟨rfl, rfl, rfl, by decide +kernel, rfl, by decide +kernel, by decide +kernel⟩
theorem sc_law_thing_asked : FnScope ["world", "named", "found", "refused", "e"] ["world", "named"] (defScope s_law_thing_asked) := ⟨rfl, rfl, rfl, by decide +kernel, rfl, by decide +kernel, by decide +kernel⟩
theorem sc_law_wild_ref : FnScope ["tray", "sizes", "kind", "house", "spot"] ["tray", "sizes"] (defScope s_law_wild_ref) := ⟨rfl, rfl, rfl, by decide +kernel, rfl, by decide +kernel, by decide +kernel⟩
theorem sc_law_things_right : FnScope ["tray", "world", "houses", "things", "sizes", "k", "named", "found", "refused", "there", "due"] ["tray", "world", "houses"] (defScope s_law_things_right) := ⟨rfl, rfl, rfl, by decide +kernel, rfl, by decide +kernel, by decide +kernel⟩
theorem sc_law_told : FnScope ["world", "houses", "k"] ["world", "houses"] (defScope s_law_told) := ⟨rfl, rfl, rfl, by decide +kernel, rfl, by decide +kernel, by decide +kernel⟩
theorem sc_law_tray : FnScope ["script", "fold", "great", "cell", "size"] ["script"] (defScope s_law_tray) := ⟨rfl, rfl, rfl, by decide +kernel, rfl, by decide +kernel, by decide +kernel⟩
theorem sc_law_sizes : FnScope ["tray", "wide", "bounds", "many", "k"] ["tray"] (defScope s_law_sizes) := ⟨rfl, rfl, rfl, by decide +kernel, rfl, by decide +kernel, by decide +kernel⟩
theorem sc_law_any : FnScope ["tray", "kind", "found", "k"] ["tray"] (defScope s_law_any) := ⟨rfl, rfl, rfl, by decide +kernel, rfl, by decide +kernel, by decide +kernel⟩
theorem sc_law_thing : FnScope ["tray", "sizes", "kind", "many", "k"] ["tray", "sizes"] (defScope s_law_thing) := ⟨rfl, rfl, rfl, by decide +kernel, rfl, by decide +kernel, by decide +kernel⟩
theorem sc_law_world : FnScope ["tray", "sizes", "houses", "size", "k"] ["tray"] (defScope s_law_world) := ⟨rfl, rfl, rfl, by decide +kernel, rfl, by decide +kernel, by decide +kernel⟩
theorem sc_law : FnScope ["script", "tray", "k", "houses", "others", "things", "world", "second", "same"] ["script"] (defScope s_law) := ⟨rfl, rfl, rfl, by decide +kernel, rfl, by decide +kernel, by decide +kernel⟩
theorem sc_SentError___init__ : FnScope ["self", "what"] ["self", "what"] (defScope s_SentError___init__) := ⟨rfl, rfl, rfl, by decide +kernel, rfl, by decide +kernel, by decide +kernel⟩
def d_World___eq__ : He.DefD := ⟨("World", some "__eq__"), "__eq__", "World.__eq__", defArgs s_World___eq__, defBody s_World___eq__, defScope s_World___eq__, [], []⟩
def d_is_there : He.DefD := ⟨("is_there", none), "is_there", "is_there", defArgs s_is_there, defBody s_is_there, defScope s_is_there, [], []⟩
def d_refs_of : He.DefD := ⟨("refs_of", none), "refs_of", "refs_of", defArgs s_refs_of, defBody s_refs_of, defScope s_refs_of, [], []⟩
def d_is_good : He.DefD := ⟨("is_good", none), "is_good", "is_good", defArgs s_is_good, defBody s_is_good, defScope s_is_good, [], []⟩
def d_World___init__ : He.DefD := ⟨("World", some "__init__"), "__init__", "World.__init__", defArgs s_World___init__, defBody s_World___init__, defScope s_World___init__, [], []⟩
def d_World___len__ : He.DefD := ⟨("World", some "__len__"), "__len__", "World.__len__", defArgs s_World___len__, defBody s_World___len__, defScope s_World___len__, [], []⟩
def d_ref_text : He.DefD := ⟨("ref_text", none), "ref_text", "ref_text", defArgs s_ref_text, defBody s_ref_text, defScope s_ref_text, [], []⟩
def d_thing_text : He.DefD := ⟨("thing_text", none), "thing_text", "thing_text", defArgs s_thing_text, defBody s_thing_text, defScope s_thing_text, [], []⟩
def d_house_text : He.DefD := ⟨("house_text", none), "house_text", "house_text", defArgs s_house_text, defBody s_house_text, defScope s_house_text, [], []⟩
def d_World___str__ : He.DefD := ⟨("World", some "__str__"), "__str__", "World.__str__", defArgs s_World___str__, defBody s_World___str__, defScope s_World___str__, [], []⟩
def d_law_alike : He.DefD := ⟨("_law_alike", none), "_law_alike", "_law_alike", defArgs s_law_alike, defBody s_law_alike, defScope s_law_alike, [], []⟩
def d_law_draw : He.DefD := ⟨("_law_draw", none), "_law_draw", "_law_draw", defArgs s_law_draw, defBody s_law_draw, defScope s_law_draw, [], []⟩
def d_law_great : He.DefD := ⟨("_law_great", none), "_law_great", "_law_great", defArgs s_law_great, defBody s_law_great, defScope s_law_great, [], []⟩
def d_World_house : He.DefD := ⟨("World", some "house"), "house", "World.house", defArgs s_World_house, defBody s_World_house, defScope s_World_house, [], []⟩
def d_law_house_asked : He.DefD := ⟨("_law_house_asked", none), "_law_house_asked", "_law_house_asked", defArgs s_law_house_asked, defBody s_law_house_asked, defScope s_law_house_asked, [], []⟩
def d_law_houses_right : He.DefD := ⟨("_law_houses_right", none), "_law_houses_right", "_law_houses_right", defArgs s_law_houses_right, defBody s_law_houses_right, defScope s_law_houses_right, [], []⟩
def d_law_second : He.DefD := ⟨("_law_second", none), "_law_second", "_law_second", defArgs s_law_second, defBody s_law_second, defScope s_law_second, [], []⟩
def d_law_ref : He.DefD := ⟨("_law_ref", none), "_law_ref", "_law_ref", defArgs s_law_ref, defBody s_law_ref, defScope s_law_ref, [], []⟩
def d_World_thing : He.DefD := ⟨("World", some "thing"), "thing", "World.thing", defArgs s_World_thing, defBody s_World_thing, defScope s_World_thing, [], []⟩
def d_law_thing_asked : He.DefD := ⟨("_law_thing_asked", none), "_law_thing_asked", "_law_thing_asked", defArgs s_law_thing_asked, defBody s_law_thing_asked, defScope s_law_thing_asked, [], []⟩
def d_law_wild_ref : He.DefD := ⟨("_law_wild_ref", none), "_law_wild_ref", "_law_wild_ref", defArgs s_law_wild_ref, defBody s_law_wild_ref, defScope s_law_wild_ref, [], []⟩
def d_law_things_right : He.DefD := ⟨("_law_things_right", none), "_law_things_right", "_law_things_right", defArgs s_law_things_right, defBody s_law_things_right, defScope s_law_things_right, [], []⟩
def d_law_told : He.DefD := ⟨("_law_told", none), "_law_told", "_law_told", defArgs s_law_told, defBody s_law_told, defScope s_law_told, [], []⟩
def d_law_tray : He.DefD := ⟨("_law_tray", none), "_law_tray", "_law_tray", defArgs s_law_tray, defBody s_law_tray, defScope s_law_tray, [], []⟩
def d_law_sizes : He.DefD := ⟨("_law_sizes", none), "_law_sizes", "_law_sizes", defArgs s_law_sizes, defBody s_law_sizes, defScope s_law_sizes, [], []⟩
def d_law_any : He.DefD := ⟨("_law_any", none), "_law_any", "_law_any", defArgs s_law_any, defBody s_law_any, defScope s_law_any, [], []⟩
def d_law_thing : He.DefD := ⟨("_law_thing", none), "_law_thing", "_law_thing", defArgs s_law_thing, defBody s_law_thing, defScope s_law_thing, [], []⟩
def d_law_world : He.DefD := ⟨("_law_world", none), "_law_world", "_law_world", defArgs s_law_world, defBody s_law_world, defScope s_law_world, [], []⟩
def d_law : He.DefD := ⟨("law", none), "law", "law", defArgs s_law, defBody s_law, defScope s_law, [], []⟩
def d_SentError___init__ : He.DefD := ⟨("SentError", some "__init__"), "__init__", "SentError.__init__", defArgs s_SentError___init__, defBody s_SentError___init__, defScope s_SentError___init__, [], []⟩
def fn : List He.DefD := [d_World___eq__, d_is_there, d_refs_of, d_is_good, d_World___init__, d_World___len__, d_ref_text, d_thing_text, d_house_text, d_World___str__, d_law_alike, d_law_draw, d_law_great, d_World_house, d_law_house_asked, d_law_houses_right, d_law_second, d_law_ref, d_World_thing, d_law_thing_asked, d_law_wild_ref, d_law_things_right, d_law_told, d_law_tray, d_law_sizes, d_law_any, d_law_thing, d_law_world, d_law, d_SentError___init__]
def fa : List He.Fa := [.cls "World", .free "ValueError", .free "bool", .free "int", .free "isinstance", .free "len", .free "list", .free "max", .free "range", .free "str", .free "sum", .free "tuple", .glo "NoAsker", .glo "NoHouse", .glo "NoLog", .glo "NoRow", .glo "NoScript", .glo "NoStep", .glo "NoText", .glo "NoThing", .glo "NoWorld", .glo "NotSettled", .glo "SentError", .glo "TooMany", .glo "Twice", .int "MOST_HOUSES" 8, .int "MOST_REFS" 12, .int "MOST_THINGS" 12, .noat "World" "houses_kept", .exm "NoHouse" "NoHouse" true, .exm "NoThing" "NoThing" true, .glo "is_there", .glo "refs_of", .glo "is_good", .glo "ref_text", .glo "thing_text", .glo "house_text", .glo "_law_alike", .glo "_law_draw", .meth "World" "house", .glo "_law_great", .glo "_law_house_asked", .meth "World" "thing", .glo "_law_ref", .glo "_law_thing_asked", .glo "_law_wild_ref", .meth "World" "__len__", .glo "_law_any", .glo "_law_sizes", .glo "_law_thing", .meth "World" "__eq__", .glo "World", .mkr "World", .meth "World" "__str__", .glo "_law_houses_right", .glo "_law_second", .glo "_law_things_right", .glo "_law_told", .glo "_law_tray", .glo "_law_world", .glo "law"]
def xs : List (Str × Str) := [("NoWorld", "SentError"), ("NoHouse", "SentError"), ("NoThing", "SentError")]
def fb : List Fb := [.err "NoHouse", .err "NoThing", .kit "NoHouse" "NoAsker" false, .kit "NoHouse" "NoLog" false, .kit "NoHouse" "NoRow" false, .kit "NoHouse" "NoScript" false, .kit "NoHouse" "NoStep" false, .kit "NoHouse" "NoText" false, .kit "NoHouse" "NoThing" false, .kit "NoHouse" "NoWorld" false, .kit "NoHouse" "NotSettled" false, .kit "NoHouse" "TooMany" false, .kit "NoHouse" "Twice" false, .kit "NoThing" "NoAsker" false, .kit "NoThing" "NoHouse" false, .kit "NoThing" "NoLog" false, .kit "NoThing" "NoRow" false, .kit "NoThing" "NoScript" false, .kit "NoThing" "NoStep" false, .kit "NoThing" "NoText" false, .kit "NoThing" "NoWorld" false, .kit "NoThing" "NotSettled" false, .kit "NoThing" "TooMany" false, .kit "NoThing" "Twice" false, .kit "NoHouse" "SentError" true, .kit "NoThing" "SentError" true, .kitT "NoHouse" "ValueError" true, .kitT "NoThing" "ValueError" true, .any (fun K => neoB (He.ga K "World") K)]
def tb : List TabX := []
abbrev R : PySem.W.OpenRow := PySem.W.OpenLaw.row PySem.Challenge.rw_sentahead_k03_things_asked
abbrev hk : PySem.W.Hook := hookE 4 fa fn tb xs fb
def ob (s : PySem.W.SharedT) : AlE := obsEG 4 fa fn tb xs fb (HandSHeadRun.getT s)
theorem ob_eq (s : PySem.W.SharedT) : ob s = hk.obs s.abs := obsEG_eq (HandSHeadRun.getT_eq s)
abbrev nms0 : List Str := ["__name__", "SentError", "NoWorld", "NoHouse", "NoThing", "NoText", "Twice", "NoScript", "NoLog", "NoStep", "NoAsker", "NoRow", "NotSettled", "TooMany", "ref_text", "thing_text", "house_text", "MOST_HOUSES", "MOST_THINGS", "MOST_REFS"]
abbrev nms1 : List Str := ["refs_of", "is_there", "is_good", "World", "_law_tray", "_law_draw", "_law_any", "_law_sizes", "_law_ref", "_law_thing", "_law_world", "_law_alike", "_law_told", "_law_great", "_law_wild_ref", "_law_thing_asked", "_law_house_asked", "_law_things_right", "_law_houses_right", "_law_second"]
abbrev nms : List Str := nms0 ++ nms1
theorem run (w : World) : HandSHeadRun.RunEq R (PySem.W.view R.prog [43]) hk ob 4000 nms w := by
  intro os
  kernel_rfl
end K03
end Z
/-!  -/
namespace Z
/-! ZD -/
/-! more words: in a range, in a flat list; a table of the module -/
open PySem PySem.Spec PyProof.Rows L2
section
variable {X : Cx} {W : WX} {pos : Pos}
/-! ### in a range -/
theorem cr_range1 : CallR X (.type "range") (fun vs H Q => ∃ j, vs = [V.int j] ∧ ∀ p, H p = none → Q (.ref p) (upd H p (.rng 0 j))) := by
  intro pins s σ H vs us Q I r h
  obtain ⟨j, rfl, q⟩ := h
  obtain ⟨u1, rfl, rj⟩ : ∃ u1, us = [u1] ∧ RelV (.int j) u1 := by
    cases r with
    | cons a b => cases b; exact ⟨_, rfl, a⟩
  obtain ⟨t, rfl⟩ := rj
  refine call_range_1 ⟨.ref s.heap.objs.size, upd H s.heap.objs.size (.rng 0 j), I.laid (t' := s.toks + 1 + 1) (fun b o e => Heap.get?_push_of_some _ e) (Nat.le_refl _) ?_, rfl, q _ (I.hok.fresh (Nat.le_refl _))⟩
  exact ⟨s.toks, t, s.toks + 1, Heap.get?_push_size _ rfl⟩
theorem op_notin_rng : OpR X (compareOp .NotIn) (fun x y H Q => ∃ i a lo hi, x = V.int i ∧ y = V.ref a ∧ H a = some (.rng lo hi) ∧ Q (.bl (!decide (lo ≤ i ∧ i < hi))) H) := by
  intro pins s σ H x y v u Q I rx ry h
  obtain ⟨i, a, lo, hi, rfl, rfl, ha, q⟩ := h
  obtain ⟨k, rfl⟩ := rx
  obtain rfl : u = Value.ref a := ry
  obtain ⟨t1, t2, t3, ho⟩ := I.hok a _ ha
  show wpAny _ _ (do return Value.bool (!(← contains (Value.ref a) (Value.int i k)))) _ _ s
  refine wpAny_bind (wpAny_contains_slot (T := "range") ⟨_, ho, rfl⟩ F.slot_range_contains (call_meets F.slot_range_contains ⟨_, ho, rfl⟩ F.entry_range_contains (F.args_range_contains_2 _ _) (q_contains a lo hi i t1 t2 t3 k)
    ⟨ho, wpAny_truthy_bool (wpAny_pure ⟨.bl _, H, I, rfl, ?_⟩)⟩))
  rw [place1]
  exact q
def wRgIn (neg : Bool) (ta : WE) (t : WA) : WE := fun ρ h E Q => ta ρ h E fun x h1 => t ρ h1 E fun vs h2 => ∃ i n, x = .int i ∧ vs = [.int n] ∧ Q (.bl (if neg then !decide (0 ≤ i ∧ i < n) else decide (0 ≤ i ∧ i < n))) h2
variable {a e : Expr} {ta : WE} {t : WA} {p p2 : Pos}
theorem rng_body {neg : Bool} {K : Fr} {S F : Hp} {H : Hp} {h : Hh} {x : Val} {vs : List Val} {v : V} {us : List V} {Q' : KQ} {Q : VK} (r : R K S F H h) (x1 : Rel K S x v) (x2 : Rels K S vs us) (lq : LQ K S F Q' Q)
    (q : ∃ i n, x = .int i ∧ vs = [.int n] ∧ Q' (.bl (if neg then !decide (0 ≤ i ∧ i < n) else decide (0 ≤ i ∧ i < n))) h) :
    ∃ j, us = [V.int j] ∧ ∀ p, H p = none → ∃ i a lo hi, v = V.int i ∧ V.ref p = V.ref a ∧ upd H p (.rng 0 j) a = some (.rng lo hi) ∧ Q (.bl (if neg then !decide (lo ≤ i ∧ i < hi) else decide (lo ≤ i ∧ i < hi))) (upd H p (.rng 0 j)) := by
  obtain ⟨i, n, rfl, rfl, q⟩ := q
  obtain ⟨w, rfl, y1⟩ := rels_1 x2
  rw [rel_int] at x1 y1
  subst x1 y1
  refine ⟨n, rfl, fun p hp => ⟨i, p, 0, n, rfl, rfl, upd_same, ?_⟩⟩
  refine lq _ _ S _ _ q (Sub.refl S) (r.sup fun b o e => ?_) (rel_bl.mpr rfl)
  rw [upd_ne (ne_of_none e hp)]
  exact e
theorem zrgin (hg : Gl X "range") (hm : X.mg "range" = none) (ha : ZE X W a ta) (hb : ZA X W [e] t) (he : starEach [e] X.env = (false, eval e X.env) :: starEach [] X.env := by rfl) (hpl : (backTo p2 (starEach [] X.env)).any (·.1) = false := by rfl) (hmk : behindInMarks .In (.Call (.Name "range" p) [e] [] p2) = false := by rfl) :
    ZE X W (.Compare a [.In] [.Call (.Name "range" p) [e] [] p2] pos) (wRgIn false ta t) :=
  ⟨pe_imp (pe_cmpR op_in_rng ha.pe (pe_callTy cr_range1 hg hm (by decide +kernel) hb.pa (by decide) (by decide) he hpl) hmk) fun σ H Q ⟨S, F, ρ, h, E', Q', r, rl, q, lq, lx⟩ =>
    ⟨S, F, ρ, h, E', _, r, rl, q, fun x h1 S1 v H1 q1 s1 r1 x1 => ⟨S1, F, ρ, h1, E', _, r1, rl.mono s1, q1, fun vs h2 S2 us H2 q2 s2 r2 x2 =>
      rng_body (neg := false) r2 (Rel.mono s2 _ _ x1) x2 ((lq.mono s1).mono s2) q2, lx.mono s1⟩, lx⟩⟩
theorem znotrgin (hg : Gl X "range") (hm : X.mg "range" = none) (ha : ZE X W a ta) (hb : ZA X W [e] t) (he : starEach [e] X.env = (false, eval e X.env) :: starEach [] X.env := by rfl) (hpl : (backTo p2 (starEach [] X.env)).any (·.1) = false := by rfl) (hmk : behindInMarks .NotIn (.Call (.Name "range" p) [e] [] p2) = false := by rfl) :
    ZE X W (.Compare a [.NotIn] [.Call (.Name "range" p) [e] [] p2] pos) (wRgIn true ta t) :=
  ⟨pe_imp (pe_cmpR op_notin_rng ha.pe (pe_callTy cr_range1 hg hm (by decide +kernel) hb.pa (by decide) (by decide) he hpl) hmk) fun σ H Q ⟨S, F, ρ, h, E', Q', r, rl, q, lq, lx⟩ =>
    ⟨S, F, ρ, h, E', _, r, rl, q, fun x h1 S1 v H1 q1 s1 r1 x1 => ⟨S1, F, ρ, h1, E', _, r1, rl.mono s1, q1, fun vs h2 S2 us H2 q2 s2 r2 x2 =>
      rng_body (neg := true) r2 (Rel.mono s2 _ _ x1) x2 ((lq.mono s1).mono s2) q2, lx.mono s1⟩, lx⟩⟩
/-- a comparison's value as a test -/
theorem lE_test {K : Fr} {W : WX} {t : WE} {σ : L2.St} {H : Hp} {Q : Bool → Hp → Prop} (q : lT K W (wTv t) σ H Q) : lE K W t σ H (fun x H' => ∃ k, x = .bl k ∧ Q k H') := by
  obtain ⟨S, F, ρ, h, E', Q', r, rl, q, lq, lx⟩ := q
  exact ⟨S, F, ρ, h, E', _, r, rl, q, fun v h' S' w H' ⟨c, e, q'⟩ s' r' x' => ⟨c, by subst e; exact rel_bl.mp x', lq _ _ _ _ q' s' r'⟩, lx⟩
theorem ztrgin (hg : Gl X "range") (hm : X.mg "range" = none) (ha : ZE X W a ta) (hb : ZA X W [e] t) (he : starEach [e] X.env = (false, eval e X.env) :: starEach [] X.env := by rfl) (hpl : (backTo p2 (starEach [] X.env)).any (·.1) = false := by rfl) (hmk : behindInMarks .In (.Call (.Name "range" p) [e] [] p2) = false := by rfl) :
    ZT X W (.Compare a [.In] [.Call (.Name "range" p) [e] [] p2] pos) (wTv (wRgIn false ta t)) :=
  ⟨pt_imp (pt_cmpR op_in_rng ha.pe (pe_callTy cr_range1 hg hm (by decide +kernel) hb.pa (by decide) (by decide) he hpl) hmk) fun σ H Q q => by
    obtain ⟨S, F, ρ, h, E', Q', r, rl, q, lq, lx⟩ := lE_test q
    exact ⟨S, F, ρ, h, E', _, r, rl, q, fun x h1 S1 v H1 q1 s1 r1 x1 => ⟨S1, F, ρ, h1, E', _, r1, rl.mono s1, q1, fun vs h2 S2 us H2 q2 s2 r2 x2 =>
      rng_body (neg := false) r2 (Rel.mono s2 _ _ x1) x2 ((lq.mono s1).mono s2) q2, lx.mono s1⟩, lx⟩⟩
theorem ztnotrgin (hg : Gl X "range") (hm : X.mg "range" = none) (ha : ZE X W a ta) (hb : ZA X W [e] t) (he : starEach [e] X.env = (false, eval e X.env) :: starEach [] X.env := by rfl) (hpl : (backTo p2 (starEach [] X.env)).any (·.1) = false := by rfl) (hmk : behindInMarks .NotIn (.Call (.Name "range" p) [e] [] p2) = false := by rfl) :
    ZT X W (.Compare a [.NotIn] [.Call (.Name "range" p) [e] [] p2] pos) (wTv (wRgIn true ta t)) :=
  ⟨pt_imp (pt_cmpR op_notin_rng ha.pe (pe_callTy cr_range1 hg hm (by decide +kernel) hb.pa (by decide) (by decide) he hpl) hmk) fun σ H Q q => by
    obtain ⟨S, F, ρ, h, E', Q', r, rl, q, lq, lx⟩ := lE_test q
    exact ⟨S, F, ρ, h, E', _, r, rl, q, fun x h1 S1 v H1 q1 s1 r1 x1 => ⟨S1, F, ρ, h1, E', _, r1, rl.mono s1, q1, fun vs h2 S2 us H2 q2 s2 r2 x2 =>
      rng_body (neg := true) r2 (Rel.mono s2 _ _ x1) x2 ((lq.mono s1).mono s2) q2, lx.mono s1⟩, lx⟩⟩
theorem i_rgin {neg : Bool} {ta : WE} {t : WA} {ρ h E} {Q : KQ} (q : ta ρ h E fun x h1 => t ρ h1 E fun vs h2 => ∃ i n, x = .int i ∧ vs = [.int n] ∧ Q (.bl (if neg then !decide (0 ≤ i ∧ i < n) else decide (0 ≤ i ∧ i < n))) h2) : wRgIn neg ta t ρ h E Q := q
/-! ### in a list or tuple of flat values -/
def fv : Val → V
  | .bl b => .bl b
  | .int i => .int i
  | .str z => .str z
  | _ => .non
def flX : Val → Bool
  | .non => true
  | .bl _ => true
  | .int _ => true
  | .str _ => true
  | _ => false
theorem rel_fl {K : Fr} {S : Hp} {x : Val} {v : V} (r : Rel K S x v) (f : flX x = true) : v = fv x ∧ flatV v = true := by
  cases x with
  | non => rw [rel_non] at r; subst r; exact ⟨rfl, rfl⟩
  | bl b => rw [rel_bl] at r; subst r; exact ⟨rfl, rfl⟩
  | int b => rw [rel_int] at r; subst r; exact ⟨rfl, rfl⟩
  | str b => rw [rel_str] at r; subst r; exact ⟨rfl, rfl⟩
  | _ => cases f
theorem rels_fl {K : Fr} {S : Hp} : ∀ {xs : List Val} {vs : List V}, Rels K S xs vs → xs.all flX = true → vs = xs.map fv ∧ vs.all flatV = true
  | [], _, r, _ => by rw [rels_nil] at r; subst r; exact ⟨rfl, rfl⟩
  | x :: xs, _, r, f => by
    rw [rels_cons] at r
    obtain ⟨w, us, rfl, r1, r2⟩ := r
    rw [List.all_cons, Bool.and_eq_true] at f
    obtain ⟨e1, e2⟩ := rel_fl r1 f.1
    obtain ⟨e3, e4⟩ := rels_fl r2 f.2
    refine ⟨by rw [e1, e3]; rfl, ?_⟩
    rw [List.all_cons, e2, e4]; rfl
def wInF (neg : Bool) : W2 := fun x y h Q => ∃ xs, SeqT h y xs ∧ flX x = true ∧ xs.all flX = true ∧ Q (.bl (if neg then !inV (fv x) (xs.map fv) else inV (fv x) (xs.map fv))) h
theorem s_inF {K : Fr} {neg : Bool} : Snd2 K (wInF neg) (rIn K neg) := fun S F H h x y v w Q' Q r rx ry q lq => by
  obtain ⟨xs, h1, f1, f2, q⟩ := q
  obtain ⟨p, ws, rfl, g1, g2⟩ := h1.l r ry
  obtain ⟨e1, e2⟩ := rel_fl rx f1
  obtain ⟨e3, e4⟩ := rels_fl g2 f2
  refine ⟨p, ws, rfl, g1, e2, e4, ?_⟩
  rw [e1, e3]
  exact lq _ _ S _ _ q (Sub.refl S) r (rel_bl.mpr rfl)
/-! ### in a table's tuple -/
def wTabIn (neg : Bool) (tab : List (Str × List Str)) (ta te : WE) : WE := fun ρ h E Q => ta ρ h E fun x h1 => te ρ h1 E fun y h2 => ∃ z zs, y = .str z ∧ tab.lookup z = some zs ∧ flX x = true ∧ Q (.bl (if neg then !inV (fv x) (zs.map V.str) else inV (fv x) (zs.map V.str))) h2
theorem tab_body {neg : Bool} {K : Fr} {w : World} {tab : List (Str × List Str)} {d : Addr} {S F : Hp} {H : Hp} {h : Hh} {x y : Val} {v u : V} {Q' : KQ} {Q : VK} (ht : ∀ q ∈ tab, ∃ a, KDct K w d q.1 (.ref a) ∧ ∀ S, SqT K S a (q.2.map V.str)) (r : R K S F H h) (x1 : Rel K S x v) (x2 : Rel K S y u) (lq : LQ K S F Q' Q)
    (q : ∃ z zs, y = .str z ∧ tab.lookup z = some zs ∧ flX x = true ∧ Q' (.bl (if neg then !inV (fv x) (zs.map V.str) else inV (fv x) (zs.map V.str))) h) : rIxD K w (.ref d) u H fun y2 H2 => rIn K neg v y2 H2 Q := by
  obtain ⟨z, zs, rfl, hl, fx, q⟩ := q
  obtain ⟨a, kd, hq⟩ := ht _ (lookup_mem2 hl)
  obtain ⟨e1, e2⟩ := rel_fl x1 fx
  refine ⟨d, z, .ref a, rfl, rel_str.mp x2, kd, a, _, rfl, .inr (hq H), e2, ?_, ?_⟩
  · rw [List.all_eq_true]
    intro b hb
    obtain ⟨c, _, rfl⟩ := List.mem_map.mp hb
    rfl
  · rw [e1]
    exact lq _ _ S _ _ q (Sub.refl S) r (rel_bl.mpr rfl)
theorem ztabin {x : Str} {tab : List (Str × List Str)} {te : WE} (hg : Gl X x) (T : TabOk X.K X.w X.mg x tab) (ha : ZE X W a ta) (he : ZE X W e te) (hi : PlainIx e) (hmk : behindInMarks .In (.Subscript (.Name x p) e p2) = false := by rfl) (hd : (x == ("__debug__" : Str)) = false := by decide) :
    ZE X W (.Compare a [.In] [.Subscript (.Name x p) e p2] pos) (wTabIn false tab ta te) := by
  obtain ⟨d, hm, ht⟩ := T.ex
  exact ⟨pe_imp (pe_cmpR op_in_seq ha.pe (pe_ix ix_kdict (pe_glob (v := .ref d) hg hm rfl hd) he.pe hi) hmk) fun σ H Q ⟨S, F, ρ, h, E', Q', r, rl, q, lq, lx⟩ =>
    ⟨S, F, ρ, h, E', _, r, rl, q, fun x h1 S1 v H1 q1 s1 r1 x1 => ⟨S1, F, ρ, h1, E', _, r1, rl.mono s1, q1, fun y h2 S2 us H2 q2 s2 r2 x2 =>
      tab_body (neg := false) ht r2 (Rel.mono s2 _ _ x1) x2 ((lq.mono s1).mono s2) q2, lx.mono s1⟩, lx⟩⟩
theorem ztabnin {x : Str} {tab : List (Str × List Str)} {te : WE} (hg : Gl X x) (T : TabOk X.K X.w X.mg x tab) (ha : ZE X W a ta) (he : ZE X W e te) (hi : PlainIx e) (hmk : behindInMarks .NotIn (.Subscript (.Name x p) e p2) = false := by rfl) (hd : (x == ("__debug__" : Str)) = false := by decide) :
    ZE X W (.Compare a [.NotIn] [.Subscript (.Name x p) e p2] pos) (wTabIn true tab ta te) := by
  obtain ⟨d, hm, ht⟩ := T.ex
  exact ⟨pe_imp (pe_cmpR op_notIn_seq ha.pe (pe_ix ix_kdict (pe_glob (v := .ref d) hg hm rfl hd) he.pe hi) hmk) fun σ H Q ⟨S, F, ρ, h, E', Q', r, rl, q, lq, lx⟩ =>
    ⟨S, F, ρ, h, E', _, r, rl, q, fun x h1 S1 v H1 q1 s1 r1 x1 => ⟨S1, F, ρ, h1, E', _, r1, rl.mono s1, q1, fun y h2 S2 us H2 q2 s2 r2 x2 =>
      tab_body (neg := true) ht r2 (Rel.mono s2 _ _ x1) x2 ((lq.mono s1).mono s2) q2, lx.mono s1⟩, lx⟩⟩
theorem zttabin {x : Str} {tab : List (Str × List Str)} {te : WE} (hg : Gl X x) (T : TabOk X.K X.w X.mg x tab) (ha : ZE X W a ta) (he : ZE X W e te) (hi : PlainIx e) (hmk : behindInMarks .In (.Subscript (.Name x p) e p2) = false := by rfl) (hd : (x == ("__debug__" : Str)) = false := by decide) :
    ZT X W (.Compare a [.In] [.Subscript (.Name x p) e p2] pos) (wTv (wTabIn false tab ta te)) := by
  obtain ⟨d, hm, ht⟩ := T.ex
  exact ⟨pt_imp (pt_cmpR op_in_seq ha.pe (pe_ix ix_kdict (pe_glob (v := .ref d) hg hm rfl hd) he.pe hi) hmk) fun σ H Q q => by
    obtain ⟨S, F, ρ, h, E', Q', r, rl, q, lq, lx⟩ := lE_test q
    exact ⟨S, F, ρ, h, E', _, r, rl, q, fun x h1 S1 v H1 q1 s1 r1 x1 => ⟨S1, F, ρ, h1, E', _, r1, rl.mono s1, q1, fun y h2 S2 us H2 q2 s2 r2 x2 =>
      tab_body (neg := false) ht r2 (Rel.mono s2 _ _ x1) x2 ((lq.mono s1).mono s2) q2, lx.mono s1⟩, lx⟩⟩
theorem zttabnin {x : Str} {tab : List (Str × List Str)} {te : WE} (hg : Gl X x) (T : TabOk X.K X.w X.mg x tab) (ha : ZE X W a ta) (he : ZE X W e te) (hi : PlainIx e) (hmk : behindInMarks .NotIn (.Subscript (.Name x p) e p2) = false := by rfl) (hd : (x == ("__debug__" : Str)) = false := by decide) :
    ZT X W (.Compare a [.NotIn] [.Subscript (.Name x p) e p2] pos) (wTv (wTabIn true tab ta te)) := by
  obtain ⟨d, hm, ht⟩ := T.ex
  exact ⟨pt_imp (pt_cmpR op_notIn_seq ha.pe (pe_ix ix_kdict (pe_glob (v := .ref d) hg hm rfl hd) he.pe hi) hmk) fun σ H Q q => by
    obtain ⟨S, F, ρ, h, E', Q', r, rl, q, lq, lx⟩ := lE_test q
    exact ⟨S, F, ρ, h, E', _, r, rl, q, fun x h1 S1 v H1 q1 s1 r1 x1 => ⟨S1, F, ρ, h1, E', _, r1, rl.mono s1, q1, fun y h2 S2 us H2 q2 s2 r2 x2 =>
      tab_body (neg := true) ht r2 (Rel.mono s2 _ _ x1) x2 ((lq.mono s1).mono s2) q2, lx.mono s1⟩, lx⟩⟩
theorem i_tabin {neg : Bool} {tab : List (Str × List Str)} {ta te : WE} {ρ h E} {Q : KQ} (q : ta ρ h E fun x h1 => te ρ h1 E fun y h2 => ∃ z zs, y = .str z ∧ tab.lookup z = some zs ∧ flX x = true ∧ Q (.bl (if neg then !inV (fv x) (zs.map V.str) else inV (fv x) (zs.map V.str))) h2) : wTabIn neg tab ta te ρ h E Q := q
end
/-! ZF -/
/-! dicts -/
theorem hu1 {k : Nat} {A : Around} (r : Room k A) : A.units + 1 < cLine := by have := r.units; omega
/-! ### keys and lookups -/
def keyX : Key → Val
  | .inl i => .int i
  | .inr z => .str z
theorem rel_key {K : Fr} {S : Hp} {k : Key} {v : V} (r : Rel K S (keyX k) v) : v = kV k := by
  cases k with
  | inl i => exact rel_int.mp r
  | inr z => exact rel_str.mp r
theorem rels_keys {K : Fr} {S : Hp} : ∀ {ks : List Key} {vs : List V}, Rels K S (ks.map keyX) vs → vs = ks.map kV
  | [], _, r => by rw [List.map_nil, rels_nil] at r; subst r; rfl
  | k :: ks, _, r => by
    rw [List.map_cons, rels_cons] at r
    obtain ⟨w, us, rfl, r1, r2⟩ := r
    rw [rel_key r1, rels_keys r2]; rfl
section
variable {κ : Type} [DecidableEq κ]
def valX (kvs : List (κ × Val)) (k : κ) : Option Val := (kvs.find? fun kv => decide (kv.1 = k)).map (·.2)
def putX (kvs : List (κ × Val)) (k : κ) (v : Val) : List (κ × Val) :=
  if (kvs.any fun kv => decide (kv.1 = k)) = true then kvs.map (fun kv => if kv.1 = k then (kv.1, v) else kv) else kvs ++ [(k, v)]
theorem valX_nil {k : κ} : valX ([] : List (κ × Val)) k = none := rfl
theorem valX_pos {p : κ × Val} {r : List (κ × Val)} {k : κ} (e : p.1 = k) : valX (p :: r) k = some p.2 := by simp [valX, List.find?_cons, e]
theorem valX_neg {p : κ × Val} {r : List (κ × Val)} {k : κ} (e : ¬ p.1 = k) : valX (p :: r) k = valX r k := by simp [valX, List.find?_cons, e]
theorem valX_any (k : κ) : ∀ kvs : List (κ × Val), (kvs.any fun kv => decide (kv.1 = k)) = (valX kvs k).isSome
  | [] => rfl
  | p :: r => by
    rw [List.any_cons]
    by_cases e : p.1 = k
    · rw [valX_pos e, decide_eq_true e]; rfl
    · rw [valX_neg e, decide_eq_false e, Bool.false_or]; exact valX_any k r
theorem kv_val {K : Fr} {S : Hp} {k : κ} : ∀ {kvs : List (κ × Val)} {ws : List (κ × V)}, RelKV K S kvs ws → (∀ v, valX kvs k = some v → ∃ w, valV ws k = some w ∧ Rel K S v w) ∧ (valX kvs k = none → valV ws k = none)
  | _, _, .nil => ⟨fun v h => (nomatch (show (none : Option Val) = some v from h)), fun _ => rfl⟩
  | p :: ps, q :: qs, .cons hpq t => by
    obtain ⟨i1, i2⟩ := kv_val (k := k) t
    by_cases e : p.1 = k
    · have e2 : q.1 = k := hpq.1.symm.trans e
      rw [valX_pos e, valV_pos e2]
      exact ⟨fun v h => by cases h; exact ⟨q.2, rfl, hpq.2⟩, fun h => by cases h⟩
    · have e2 : ¬ q.1 = k := fun z => e (hpq.1.trans z)
      rw [valX_neg e, valV_neg e2]
      exact ⟨i1, i2⟩
theorem kv_any {K : Fr} {S : Hp} {k : κ} : ∀ {kvs : List (κ × Val)} {ws : List (κ × V)}, RelKV K S kvs ws → (kvs.any fun kv => decide (kv.1 = k)) = ws.any fun kv => decide (kv.1 = k)
  | _, _, .nil => rfl
  | p :: ps, q :: qs, .cons hpq t => by
    rw [List.any_cons, List.any_cons, kv_any t, hpq.1]
theorem kv_map {K : Fr} {S : Hp} {k : κ} {v : Val} {w : V} (r : Rel K S v w) : ∀ {kvs : List (κ × Val)} {ws : List (κ × V)}, RelKV K S kvs ws → RelKV K S (kvs.map fun kv => if kv.1 = k then (kv.1, v) else kv) (ws.map fun kv => if kv.1 = k then (kv.1, w) else kv)
  | _, _, .nil => .nil
  | p :: ps, q :: qs, .cons hpq t => by
    refine .cons ?_ (kv_map r t)
    show (if p.1 = k then (p.1, v) else p).1 = (if q.1 = k then (q.1, w) else q).1 ∧ Rel K S (if p.1 = k then (p.1, v) else p).2 (if q.1 = k then (q.1, w) else q).2
    by_cases e : p.1 = k
    · have e2 : q.1 = k := hpq.1.symm.trans e
      rw [if_pos e, if_pos e2]
      exact ⟨hpq.1, r⟩
    · have e2 : ¬ q.1 = k := fun z => e (hpq.1.trans z)
      rw [if_neg e, if_neg e2]
      exact hpq
theorem kv_snoc {K : Fr} {S : Hp} {k : κ} {v : Val} {w : V} (r : Rel K S v w) : ∀ {kvs : List (κ × Val)} {ws : List (κ × V)}, RelKV K S kvs ws → RelKV K S (kvs ++ [(k, v)]) (ws ++ [(k, w)])
  | _, _, .nil => .cons ⟨rfl, r⟩ .nil
  | p :: ps, q :: qs, .cons hpq t => .cons hpq (kv_snoc r t)
theorem kv_put {K : Fr} {S : Hp} {k : κ} {v : Val} {w : V} {kvs : List (κ × Val)} {ws : List (κ × V)} (h : RelKV K S kvs ws) (r : Rel K S v w) : RelKV K S (putX kvs k v) (putK ws k w) := by
  unfold putX putK
  rw [kv_any h]
  split
  · exact kv_map r h
  · exact kv_snoc r h
theorem kv_len {K : Fr} {S : Hp} {kvs : List (κ × Val)} {ws : List (κ × V)} (h : RelKV K S kvs ws) : kvs.length = ws.length := Paired.length h
theorem valX_put (kvs : List (κ × Val)) (k j : κ) (v : Val) : valX (putX kvs k v) j = if j = k then some v else valX kvs j := by
  have hm : ∀ l : List (κ × Val), valX (l.map fun kv => if kv.1 = k then (kv.1, v) else kv) j = (valX l j).map fun x => if j = k then v else x := by
    intro l
    induction l with
    | nil => rfl
    | cons p r ih =>
      rw [List.map_cons]
      by_cases e : p.1 = j
      · have e2 : (if p.1 = k then (p.1, v) else p).1 = j := by split <;> exact e
        rw [valX_pos e2, valX_pos e]
        by_cases f : p.1 = k
        · rw [if_pos f]; simp [← e, f]
        · rw [if_neg f]
          have : ¬ j = k := fun z => f (e.trans z)
          simp [this]
      · have e2 : ¬ (if p.1 = k then (p.1, v) else p).1 = j := by split <;> exact e
        rw [valX_neg e2, valX_neg e, ih]
  have hs : ∀ l : List (κ × Val), valX l k = none → valX (l ++ [(k, v)]) j = if j = k then some v else valX l j := by
    intro l
    induction l with
    | nil =>
      intro _
      by_cases e : j = k
      · rw [if_pos e]; exact valX_pos (p := (k, v)) e.symm
      · rw [if_neg e]; exact valX_neg (p := (k, v)) fun z => e z.symm
    | cons p r ih =>
      intro h
      by_cases f : p.1 = k
      · rw [valX_pos f] at h; cases h
      rw [valX_neg f] at h
      rw [List.cons_append]
      by_cases e : p.1 = j
      · rw [valX_pos e, valX_pos e]
        have : ¬ j = k := fun z => f (e.trans z)
        rw [if_neg this]
      · rw [valX_neg e, valX_neg e]
        exact ih h
  unfold putX
  by_cases a : (kvs.any fun kv => decide (kv.1 = k)) = true
  · rw [if_pos a, hm]
    by_cases e : j = k
    · subst e
      rw [valX_any] at a
      obtain ⟨x, hx⟩ := Option.isSome_iff_exists.mp a
      simp [hx]
    · simp [e]
  · rw [if_neg a]
    refine hs _ ?_
    rw [valX_any] at a
    cases h : valX kvs k with
    | none => rfl
    | some x => rw [h] at a; exact absurd rfl a
theorem putX_len (kvs : List (κ × Val)) (k : κ) (v : Val) : (putX kvs k v).length ≤ kvs.length + 1 := by
  unfold putX
  split <;> simp
end
/-! ### reading, writing -/
inductive DG (h : Hh) : Val → Val → Option Val → Prop
  | k {a kvs} (k : Key) : h a = some (.dK kvs) → DG h (.ref a) (keyX k) (valX kvs k)
  | t {a kvs} (k : List Key) : h a = some (.dT kvs) → DG h (.ref a) (.tup (k.map keyX)) (valX kvs k)
inductive DP (h : Hh) : Val → Val → Val → Hh → Prop
  | k {a kvs v} (k : Key) : h a = some (.dK kvs) → kvs.length < 16000000 → DP h (.ref a) (keyX k) v (hup h a (.dK (putX kvs k v)))
  | t {a kvs v} (k : List Key) : h a = some (.dT kvs) → kvs.length < 16000000 → DP h (.ref a) (.tup (k.map keyX)) v (hup h a (.dT (putX kvs k v)))
theorem DG.l {K : Fr} {S F H : Hp} {h : Hh} {x y : Val} {o : Option Val} {v w : V} (q : DG h x y o) (r : R K S F H h) (x1 : Rel K S x v) (y1 : Rel K S y w) : ∃ a ov, v = .ref a ∧ DGet H a w ov ∧ IsD H a ∧ (∀ u, o = some u → ∃ u', ov = some u' ∧ Rel K S u u') ∧ (o = none → ov = none) := by
  cases q with
  | k k e =>
    rw [rel_ref] at x1
    obtain ⟨_, u, h1, ws, rfl, h2⟩ := r.own _ _ e
    rw [rel_key y1]
    obtain ⟨i1, i2⟩ := kv_val (k := k) h2
    exact ⟨_, _, x1, .k h1, .inl ⟨_, .inl h1⟩, i1, i2⟩
  | t k e =>
    rw [rel_ref] at x1
    obtain ⟨_, u, h1, ws, rfl, h2⟩ := r.own _ _ e
    rw [rel_tup] at y1
    obtain ⟨b, us, rfl, h3, h4⟩ := y1
    rw [rels_keys h4] at h3
    obtain ⟨i1, i2⟩ := kv_val (k := k) h2
    exact ⟨_, _, x1, .t h1 (r.sub _ _ h3), .inr ⟨_, .inl h1⟩, i1, i2⟩
theorem DP.l {K : Fr} {S F H : Hp} {h h' : Hh} {x y z : Val} {v w u : V} (q : DP h x y z h') (r : R K S F H h) (x1 : Rel K S x v) (y1 : Rel K S y w) (z1 : Rel K S z u) : ∃ a H', v = .ref a ∧ DPut H a w u H' ∧ R K S F H' h' := by
  have hz := sizeLine_eq
  cases q with
  | k k e hl =>
    rw [rel_ref] at x1
    obtain ⟨_, o, h1, ws, rfl, h2⟩ := r.own _ _ e
    rw [rel_key y1]
    exact ⟨_, _, x1, .k h1 (by rw [← kv_len h2]; omega), r.store e ⟨_, rfl, kv_put h2 z1⟩⟩
  | t k e hl =>
    rw [rel_ref] at x1
    obtain ⟨_, o, h1, ws, rfl, h2⟩ := r.own _ _ e
    rw [rel_tup] at y1
    obtain ⟨b, us, rfl, h3, h4⟩ := y1
    rw [rels_keys h4] at h3
    exact ⟨_, _, x1, .t h1 (r.sub _ _ h3) (by rw [← kv_len h2]; omega), r.store e ⟨_, rfl, kv_put h2 z1⟩⟩
section
variable {X : Cx} {W : WX} {pos pos' apos cpos : Pos} {o i e f value : Expr} {td ty tx tv : WE}
def wDGet (td ty : WE) : WE := fun ρ h E Q => td ρ h E fun x h1 => ty ρ h1 E fun y h2 => ∃ v, DG h2 x y (some v) ∧ Q v h2
theorem zdget (hu : X.A.units + 1 < cLine) (ho : ZE X W o td) (hi : ZE X W i ty) (hs : NoSl i) : ZE X W (.Subscript o i pos) (wDGet td ty) :=
  ⟨pe_imp (pe_dget hu ho.pe hi.pe hs) fun σ H Q ⟨S, F, ρ, h, E', Q', r, rl, q, lq, lx⟩ =>
    ⟨S, F, ρ, h, E', _, r, rl, q, fun x h1 S1 v H1 q1 s1 r1 x1 => ⟨S1, F, ρ, h1, E', _, r1, rl.mono s1, q1, fun y h2 S2 w H2 q2 s2 r2 x2 => by
      obtain ⟨u, g, q2⟩ := q2
      obtain ⟨a, ov, e1, g1, _, i1, _⟩ := g.l r2 (Rel.mono s2 _ _ x1) x2
      obtain ⟨u', e2, x3⟩ := i1 u rfl
      subst e2
      exact ⟨a, u', e1, g1, lq _ _ _ _ _ q2 (s1.trans s2) r2 x3⟩, lx.mono s1⟩, lx⟩⟩
def wDIn (neg : Bool) (ty td : WE) : WE := fun ρ h E Q => ty ρ h E fun y h1 => td ρ h1 E fun x h2 => ∃ o, DG h2 x y o ∧ Q (.bl (if neg then !o.isSome else o.isSome)) h2
theorem zdin (hu : X.A.units + 1 < cLine) (hi : ZE X W i ty) (ho : ZE X W o td) (hm : behindInMarks .In o = false := by rfl) : ZE X W (.Compare i [.In] [o] pos) (wDIn false ty td) :=
  ⟨pe_imp (pe_cmp (pc_din hu hi.pe ho.pe) hm) fun σ H Q ⟨S, F, ρ, h, E', Q', r, rl, q, lq, lx⟩ =>
    ⟨S, F, ρ, h, E', _, r, rl, q, fun y h1 S1 w H1 q1 s1 r1 x1 => ⟨S1, F, ρ, h1, E', _, r1, rl.mono s1, q1, fun x h2 S2 v H2 q2 s2 r2 x2 => by
      obtain ⟨u, g, q2⟩ := q2
      obtain ⟨a, ov, e1, g1, _, i1, i2⟩ := g.l r2 x2 (Rel.mono s2 _ _ x1)
      refine ⟨a, ov, e1, g1, ?_⟩
      have : ov.isSome = u.isSome := by
        cases u with
        | none => rw [i2 rfl]; rfl
        | some u => obtain ⟨u', e2, _⟩ := i1 u rfl; rw [e2]; rfl
      rw [this]
      exact lq _ _ _ _ _ q2 (s1.trans s2) r2 (rel_bl.mpr rfl), lx.mono s1⟩, lx⟩⟩
theorem zdnotin (hu : X.A.units + 1 < cLine) (hi : ZE X W i ty) (ho : ZE X W o td) (hm : behindInMarks .NotIn o = false := by rfl) : ZE X W (.Compare i [.NotIn] [o] pos) (wDIn true ty td) :=
  ⟨pe_imp (pe_cmp (pc_dnotin hu hi.pe ho.pe) hm) fun σ H Q ⟨S, F, ρ, h, E', Q', r, rl, q, lq, lx⟩ =>
    ⟨S, F, ρ, h, E', _, r, rl, q, fun y h1 S1 w H1 q1 s1 r1 x1 => ⟨S1, F, ρ, h1, E', _, r1, rl.mono s1, q1, fun x h2 S2 v H2 q2 s2 r2 x2 => by
      obtain ⟨u, g, q2⟩ := q2
      obtain ⟨a, ov, e1, g1, _, i1, i2⟩ := g.l r2 x2 (Rel.mono s2 _ _ x1)
      refine ⟨a, ov, e1, g1, ?_⟩
      have : ov.isSome = u.isSome := by
        cases u with
        | none => rw [i2 rfl]; rfl
        | some u => obtain ⟨u', e2, _⟩ := i1 u rfl; rw [e2]; rfl
      rw [this]
      exact lq _ _ _ _ _ q2 (s1.trans s2) r2 (rel_bl.mpr rfl), lx.mono s1⟩, lx⟩⟩
theorem ztdin (hu : X.A.units + 1 < cLine) (hi : ZE X W i ty) (ho : ZE X W o td) (hm : behindInMarks .In o = false := by rfl) : ZT X W (.Compare i [.In] [o] pos) (wTv (wDIn false ty td)) :=
  ⟨pt_imp (pt_cmp (pc_din hu hi.pe ho.pe) hm) fun σ H Q q => by
    obtain ⟨S, F, ρ, h, E', Q', r, rl, q, lq, lx⟩ := lE_test q
    exact ⟨S, F, ρ, h, E', _, r, rl, q, fun y h1 S1 w H1 q1 s1 r1 x1 => ⟨S1, F, ρ, h1, E', _, r1, rl.mono s1, q1, fun x h2 S2 v H2 q2 s2 r2 x2 => by
      obtain ⟨u, g, q2⟩ := q2
      obtain ⟨a, ov, e1, g1, _, i1, i2⟩ := g.l r2 x2 (Rel.mono s2 _ _ x1)
      refine ⟨a, ov, e1, g1, ?_⟩
      have : ov.isSome = u.isSome := by
        cases u with
        | none => rw [i2 rfl]; rfl
        | some u => obtain ⟨u', e2, _⟩ := i1 u rfl; rw [e2]; rfl
      rw [this]
      exact lq _ _ _ _ _ q2 (s1.trans s2) r2 (rel_bl.mpr rfl), lx.mono s1⟩, lx⟩⟩
theorem ztdnotin (hu : X.A.units + 1 < cLine) (hi : ZE X W i ty) (ho : ZE X W o td) (hm : behindInMarks .NotIn o = false := by rfl) : ZT X W (.Compare i [.NotIn] [o] pos) (wTv (wDIn true ty td)) :=
  ⟨pt_imp (pt_cmp (pc_dnotin hu hi.pe ho.pe) hm) fun σ H Q q => by
    obtain ⟨S, F, ρ, h, E', Q', r, rl, q, lq, lx⟩ := lE_test q
    exact ⟨S, F, ρ, h, E', _, r, rl, q, fun y h1 S1 w H1 q1 s1 r1 x1 => ⟨S1, F, ρ, h1, E', _, r1, rl.mono s1, q1, fun x h2 S2 v H2 q2 s2 r2 x2 => by
      obtain ⟨u, g, q2⟩ := q2
      obtain ⟨a, ov, e1, g1, _, i1, i2⟩ := g.l r2 x2 (Rel.mono s2 _ _ x1)
      refine ⟨a, ov, e1, g1, ?_⟩
      have : ov.isSome = u.isSome := by
        cases u with
        | none => rw [i2 rfl]; rfl
        | some u => obtain ⟨u', e2, _⟩ := i1 u rfl; rw [e2]; rfl
      rw [this]
      exact lq _ _ _ _ _ q2 (s1.trans s2) r2 (rel_bl.mpr rfl), lx.mono s1⟩, lx⟩⟩
/-- d[y] = v -/
def wDPut (td ty tv : WE) : WS := fun nx _ _ _ xe ρ h => tv ρ h (atx xe ρ) fun v h1 => td ρ h1 (atx xe ρ) fun x h2 => ty ρ h2 (atx xe ρ) fun y h3 => ∃ h4, DP h3 x y v h4 ∧ nx ρ h4
theorem zs_dput (hu : X.A.units + 1 < cLine) (ho : ZE X W o td) (hi : ZE X W i ty) (hv : ZE X W value tv) (hs : swapsWith value (some (.Subscript o i pos')) pos.line X.env = pure false := by rfl) :
    ZS X W (.Assign [.Subscript o i pos'] value pos) (wDPut td ty tv) :=
  ⟨ps_imp (ps_dput hu ho.pe hi.pe hv.pe hs) fun D σ H ⟨S, Fr, ρ, h, nx, rt, bk, ct, xe, r, rl, q, ln, lr, lb, lc, lx⟩ =>
    ⟨S, Fr, ρ, h, _, _, r, rl, q, fun v h1 S1 w H1 q1 s1 r1 x1 => ⟨S1, Fr, ρ, h1, _, _, r1, rl.mono s1, q1, fun x h2 S2 w2 H2 q2 s2 r2 x2 => ⟨S2, Fr, ρ, h2, _, _, r2, (rl.mono s1).mono s2, q2, fun y h3 S3 w3 H3 q3 s3 r3 x3 => by
      obtain ⟨h4, g, q3⟩ := q3
      obtain ⟨a, H4, e, g1, r4⟩ := g.l r3 (Rel.mono s3 _ _ x2) x3 (Rel.mono s3 _ _ (Rel.mono s2 _ _ x1))
      exact ⟨a, H4, e, g1, ln _ _ S3 _ _ q3 ((s1.trans s2).trans s3) r4 (((rl.mono s1).mono s2).mono s3)⟩, ((lx.at rl).mono s1).mono s2⟩, (lx.at rl).mono s1⟩, lx.at rl⟩⟩
/-! ### displays -/
def wPairs : List (Key × WE) → Ev → Hh → XQ → (List (Key × Val) → Hh → Prop) → Prop
  | [], _, h, _, Q => Q [] h
  | (k, t) :: r, ρ, h, E, Q => t ρ h E fun y h1 => wPairs r ρ h1 E fun ps h2 => Q ((k, y) :: ps) h2
def wDisp (trs : List (Key × WE)) : WE := fun ρ h E Q => wPairs trs ρ h E fun kvs h1 => ∀ a, h1 a = none → Q (.ref a) (hup h1 a (.dK kvs))
structure ZPs (X : Cx) (W : WX) (pos : Pos) (ks : List (Option Expr)) (vs : List Expr) (trs : List (Key × WE)) : Prop where
  pps : PPs X pos ks vs (trs.map fun p => (tC (kV p.1), lE X.K W p.2))
theorem zp_nil : ZPs X W pos [] [] [] := ⟨pps_nil⟩
theorem zp_str {z : Str} {j p} {v : Expr} {ks : List (Option Expr)} {vs : List Expr} {t : WE} {trs : List (Key × WE)} (hv : ZE X W v t) (hr : ZPs X W pos ks vs trs) : ZPs X W pos (some (.Constant (.str z) j p) :: ks) (v :: vs) ((.inr z, t) :: trs) := ⟨pps_cons pe_str hv.pe hr.pps⟩
theorem zp_int {z : Int} {j p} {v : Expr} {ks : List (Option Expr)} {vs : List Expr} {t : WE} {trs : List (Key × WE)} (hv : ZE X W v t) (hr : ZPs X W pos ks vs trs) : ZPs X W pos (some (.Constant (.int z) j p) :: ks) (v :: vs) ((.inl z, t) :: trs) := ⟨pps_cons pe_int hv.pe hr.pps⟩
theorem R.lessF {K : Fr} {S F H : Hp} {h : Hh} {p : Addr} {u : HO} (r : R K S (upd F p u) H h) (n : F p = none) : R K S F H h :=
  ⟨r.sub, fun a o q => r.frm a o (by rw [upd_ne (ne_of_none q n)]; exact q), r.own⟩
theorem LX.moreF {K : Fr} {S F : Hp} {E' : XQ} {W : WX} {σ : L2.St} {p : Addr} {u : HO} (lx : LX K S F E' W σ) (n : F p = none) : LX K S (upd F p u) E' W σ := fun C v h' S' w d H' q s r x e => lx C v h' S' w d H' q s (r.lessF n) x e
theorem pairs_low {K : Fr} {W : WX} {F : Hp} {E' : XQ} {σ : L2.St} {ρ : Ev} : ∀ (trs : List (Key × WE)) {S H : Hp} {h : Hh} {Q : List (Key × Val) → Hh → Prop} {G : List (V × V) → Hp → Prop}, R K S F H h → Rls K S ρ σ → LX K S F E' W σ → wPairs trs ρ h E' Q →
    (∀ kvs h' S' ws H', Q kvs h' → Sub S S' → R K S' F H' h' → RelKV K S' kvs ws → (kvs.map (·.1)) = trs.map (·.1) → G (ws.map fun kv => (kV kv.1, kv.2)) H') → tPairs (trs.map fun p => (tC (kV p.1), lE K W p.2)) σ H G
  | [], S, H, h, Q, G, r, rl, lx, q, g => g [] h S [] H q (Sub.refl S) r .nil rfl
  | (k, t) :: trs, S, H, h, Q, G, r, rl, lx, q, g => by
    show lE K W t σ H fun y H2 => tPairs (trs.map fun p => (tC (kV p.1), lE K W p.2)) σ H2 fun ps H3 => G ((kV k, y) :: ps) H3
    refine ⟨S, F, ρ, h, E', _, r, rl, q, fun v h' S' w H' q1 s1 r1 x1 => ?_, lx⟩
    refine pairs_low trs r1 (rl.mono s1) (lx.mono s1) q1 fun kvs h2 S2 ws H2 q2 s2 r2 x2 e2 => ?_
    exact g ((k, v) :: kvs) h2 S2 ((k, w) :: ws) H2 q2 (s1.trans s2) r2 (.cons ⟨rfl, Rel.mono s2 _ _ x1⟩ x2) (by rw [List.map_cons, List.map_cons, e2])
theorem putK_app {kvs : List (Key × V)} {k : Key} {v : V} (h : k ∉ kvs.map (·.1)) : putK kvs k v = kvs ++ [(k, v)] := by
  unfold putK
  rw [if_neg]
  intro a
  rw [List.any_eq_true] at a
  obtain ⟨p, hp, e⟩ := a
  exact h (List.mem_map.mpr ⟨p, hp, of_decide_eq_true e⟩)
theorem merge_nodup : ∀ (l acc : List (Key × V)), ((acc ++ l).map (·.1)).Nodup → mergeK acc l = acc ++ l
  | [], acc, _ => by rw [List.append_nil]; rfl
  | (k, v) :: l, acc, h => by
    show mergeK (putK acc k v) l = _
    have hk : k ∉ acc.map (·.1) := by
      intro hm
      rw [List.map_append, List.nodup_append] at h
      exact h.2.2 k hm k (by simp) rfl
    rw [putK_app hk, merge_nodup l (acc ++ [(k, v)]) (by rw [List.append_assoc]; exact h), List.append_assoc]
    rfl
theorem zdisp {ks : List (Option Expr)} {vs : List Expr} {trs : List (Key × WE)} (h : ZPs X W pos ks vs trs) (hall : ks.all (·.isSome) = true := by rfl) (hl : ks.length = vs.length := by rfl) (h0 : ks ≠ [] := by simp) (h15 : ks.length ≤ 15 := by decide) (ht : trs.length ≤ 15 := by decide) (hn : (trs.map (·.1)).Nodup := by decide +kernel) :
    ZE X W (.Dict ks vs pos) (wDisp trs) :=
  ⟨pe_imp (pe_disp h.pps hall hl h0 h15) fun σ H Q ⟨S, F, ρ, h, E', Q', r, rl, q, lq, lx⟩ p hp => by
    have hF : F p = none := by
      cases e : F p with
      | none => rfl
      | some o => have := (r.frm _ _ e).1; rw [hp] at this; cases this
    refine pairs_low trs (r.held hp) rl (lx.moreF hF) q fun kvs h2 S2 ws H2 q2 s2 r2 x2 e2 => ?_
    obtain ⟨g1, g2, g3⟩ := r2.frm p _ upd_same
    have hk : ws.map (·.1) = trs.map (·.1) := by
      rw [← e2]
      clear e2 q2
      induction x2 with
      | nil => rfl
      | cons a _ ih => rw [List.map_cons, List.map_cons, ih, a.1]
    refine ⟨g1, ws, rfl, ?_, ?_⟩
    · have := congrArg List.length hk
      rw [List.length_map, List.length_map] at this
      omega
    · rw [merge_nodup ws [] (by rw [List.nil_append, hk]; exact hn), List.nil_append]
      have r3 := r2.reheld (v := .dK ws) hF
      obtain ⟨_, r4⟩ := r3.unhold (o := .dK kvs) hF ⟨ws, rfl, x2⟩
      exact lq _ _ _ _ _ (q2 p g3) s2 r4 (rel_ref.mpr rfl)⟩
/-! an empty one, by its keys' kind -/
def wDNewK : WE := fun _ h _ Q => ∀ a, h a = none → Q (.ref a) (hup h a (.dK []))
def wDNewT : WE := fun _ h _ Q => ∀ a, h a = none → Q (.ref a) (hup h a (.dT []))
theorem zdnewK : ZE X W (.Dict [] [] pos) wDNewK := ⟨pe_imp pe_dnewK fun σ H Q ⟨S, F, ρ, h, E', Q', r, rl, q, lq, lx⟩ p hp => lq _ _ S _ _ (q p (r.fresh hp)) (Sub.refl S) (r.owned hp ⟨[], rfl, .nil⟩) (rel_ref.mpr rfl)⟩
theorem zdnewT : ZE X W (.Dict [] [] pos) wDNewT := ⟨pe_imp pe_dnewT fun σ H Q ⟨S, F, ρ, h, E', Q', r, rl, q, lq, lx⟩ p hp => lq _ _ S _ _ (q p (r.fresh hp)) (Sub.refl S) (r.owned hp ⟨[], rfl, .nil⟩) (rel_ref.mpr rfl)⟩
/-! steps -/
theorem i_disp {trs : List (Key × WE)} {ρ h E} {Q : KQ} (q : wPairs trs ρ h E fun kvs h1 => ∀ a, h1 a = none → Q (.ref a) (hup h1 a (.dK kvs))) : wDisp trs ρ h E Q := q
theorem i_pcons {k : Key} {t : WE} {r : List (Key × WE)} {ρ h E} {Q : List (Key × Val) → Hh → Prop} (q : t ρ h E fun y h1 => wPairs r ρ h1 E fun ps h2 => Q ((k, y) :: ps) h2) : wPairs ((k, t) :: r) ρ h E Q := q
theorem i_pnil {ρ h E} {Q : List (Key × Val) → Hh → Prop} (q : Q [] h) : wPairs [] ρ h E Q := q
theorem i_dget {td ty : WE} {ρ h E} {Q : KQ} (q : td ρ h E fun x h1 => ty ρ h1 E fun y h2 => ∃ v, DG h2 x y (some v) ∧ Q v h2) : wDGet td ty ρ h E Q := q
theorem i_din {neg : Bool} {ty td : WE} {ρ h E} {Q : KQ} (q : ty ρ h E fun y h1 => td ρ h1 E fun x h2 => ∃ o, DG h2 x y o ∧ Q (.bl (if neg then !o.isSome else o.isSome)) h2) : wDIn neg ty td ρ h E Q := q
theorem i_dput {td ty tv : WE} {nx : EH} {rt bk ct xe ρ h} (q : tv ρ h (atx xe ρ) fun v h1 => td ρ h1 (atx xe ρ) fun x h2 => ty ρ h2 (atx xe ρ) fun y h3 => ∃ h4, DP h3 x y v h4 ∧ nx ρ h4) : wDPut td ty tv nx rt bk ct xe ρ h := q
theorem dgS {a : Addr} {kvs : List (Key × Val)} {z : Str} {v : Val} {h : Hh} {A : Val → Prop} (e : h a = some (.dK kvs)) (l : valX kvs (.inr z) = some v) (q : A v) : ∃ v, DG h (.ref a) (.str z) (some v) ∧ A v := ⟨v, by rw [← l]; exact .k (.inr z) e, q⟩
theorem dgI {a : Addr} {kvs : List (Key × Val)} {z : Int} {v : Val} {h : Hh} {A : Val → Prop} (e : h a = some (.dK kvs)) (l : valX kvs (.inl z) = some v) (q : A v) : ∃ v, DG h (.ref a) (.int z) (some v) ∧ A v := ⟨v, by rw [← l]; exact .k (.inl z) e, q⟩
theorem dgT {a : Addr} {kvs : List (List Key × Val)} {k : List Key} {v : Val} {h : Hh} {A : Val → Prop} (e : h a = some (.dT kvs)) (l : valX kvs k = some v) (q : A v) : ∃ v, DG h (.ref a) (.tup (k.map keyX)) (some v) ∧ A v := ⟨v, by rw [← l]; exact .t k e, q⟩
end
/-! ZH -/
/-! try, except: what is held of an error, its class asked, its field read -/
open PySem.Calls
/-! ### the class of an error that has fields of its own -/
theorem find_bind {K : Fr} {C : Addr} {od : Option Obj} {nm : Str} {at' gt : Value} (c : (PySem.W.clsIn K C).isSome = true) (f1 : PySem.W.findIn K (.ref C) nm = some (some at')) (f2 : PySem.W.specialIn K at' "__get__" = some (some gt)) (f3 : PySem.W.takesIn K at' = some true) :
    PySem.W.findObj K C od nm = some (.bind gt at') := by
  obtain ⟨cd, c2⟩ := Option.isSome_iff_exists.mp c
  unfold PySem.W.findObj
  rw [c2, Option.bind_some, f1, Option.bind_some]
  simp [f2, f3]
theorem cls_there {K : Fr} {C : Addr} (q : PySem.W.hasDictIn K C = true) : ∃ cd, PySem.W.clsIn K C = some cd := by
  unfold PySem.W.hasDictIn at q
  cases e : PySem.W.clsIn K C with
  | none => rw [e] at q; cases q
  | some cd => exact ⟨cd, rfl⟩
/-- e.__class__ -/
theorem err_class {prog : Program} {w : World} {Ar : Around} {Ex : Value → Shared → Prop} {st : Shared} {K : Fr} {y C : Addr} {oy : Obj} {od : Option Obj} {Q : Option Value → Shared → Prop} (c : ErrC K C)
    (Kh : K.In st.heap) (Iy : PySem.W.InstAt st.heap y oy C od) (h : Q (some (.ref C)) { st with toks := st.toks + 1 }) : wpAny (model prog w) Ar (getAttr? (.ref y) "__class__") Q Ex st := by
  obtain ⟨cd, hc⟩ := cls_there c.g4
  have hf := find_bind (od := od) (by rw [hc]; rfl) c.g5 c.g6 c.g7
  obtain ⟨hp, gl, dr, tk, os⟩ := st
  have l0 := Iy.type (M := model prog w)
  have l1 := PySem.W.looks_findIn (M := model prog w) Kh c.g1
  have l2 := PySem.W.looks_findIn (M := model prog w) Kh c.g2
  have l3 := PySem.W.looks_find (M := model prog w) Kh Iy hf
  have ls : PySem.W.Looks (model prog w) hp (isInstance (.ref y) (.type "BaseException")) true := l0.andThen (PySem.W.looks_subIn Kh c.g3)
  have n0 : (false && onTheHeap (Value.builtin "BaseException.__getattribute__")) = false := rfl
  have n2 : (Value.builtin "BaseException.__getattribute__" == Value.builtin "object.__getattribute__") = false := by decide +kernel
  have n1 : (onTheHeap (Value.ref C) && Value.builtin "BaseException.__getattribute__" == Value.builtin "object.__getattribute__") = false := by rw [n2]; rfl
  unfold getAttr? getAttrBy? getAttrBy
  refine wpAny_bind (wpAny_mkText (wpAny_bind (wpAny_attempt (wpAny_holding (wpAny_bind (l0.at (wpAny_bind (l1.at ?_))))))))
  show wpAny _ _ (if (onTheHeap (Value.ref C) && Value.builtin "BaseException.__getattribute__" == Value.builtin "object.__getattribute__") = true then _ else _) _ _ _
  rw [n1, if_neg Bool.false_ne_true]
  unfold getAttrByItsOwn hookBefore
  refine wpAny_bind ?_
  rw [if_pos (show onTheHeap (Value.ref C) = true from rfl)]
  refine l2.at (wpAny_bind (wpAny_attempt (wpAny_holding ?_)))
  unfold callGetattribute
  rw [n0, if_neg Bool.false_ne_true]
  unfold boundAndCalled
  rw [PySem.F.excAttr_ValueError.ga.bind (.ref y)]
  refine wpAny_bind (wpAny_pure ?_)
  show wpAny _ _ (call (.builtin "BaseException.__getattribute__") [.ref y, .str "__class__" tk]) _ _ _
  refine wpAny_call (codeAny_call_builtin PySem.F.excAttr_ValueError.ga.plain PySem.F.entry_bexc_ga ?_)
  refine @PySem.W.check_slot (model prog w) _ _ ⟨hp, gl, dr, tk + 1, os⟩ "BaseException.__getattribute__" "BaseException" "__getattribute__" (.ref y) [.str "__class__" tk] [] _ (by decide +kernel) (by decide +kernel) ls (PySem.F.args_bexc_ga (.ref y) (.str "__class__" tk)) ?_
  unfold Builtin.«object.__getattribute__»
  refine wpAny_bind (wpAny_of_eq (a := ((Value.ref y : Value), [Value.str "__class__" tk])) (by first | rfl | (simp only [slotArgs]; rfl)) ?_)
  refine wpAny_bind (wpAny_pure (wpAny_bind (l0.at (wpAny_bind (l3.at ?_)))))
  show wpAny _ _ (holding [Value.builtin "object.__class__"] (call (.builtin "getset_descriptor.__get__") [.builtin "object.__class__", .ref y, .ref C]) >>= ret) _ _ _
  refine wpAny_bind (wpAny_holding (wpAny_call (PySem.W.class_get (s := ⟨hp, gl, dr, tk + 1, os⟩) (ox := oy) (od := od) Kh Iy c.g8 ?_)))
  refine wpAny_pure ?_
  show wpAny _ _ (handedOut (.ref C)) _ _ _
  rw [PySem.W.handedOut_of (v := .ref C) rfl]
  first
    | exact wpAny_pure (wpAny_pure h)
    | exact wpAny_pure h
    | exact wpAny_pure (wpAny_bind (wpAny_pure (wpAny_pure h)))
theorem kitx_err {K : Fr} {y C : Addr} {oy : Obj} {od : Option Obj} (c : ErrC K C) : PySem.W.KitX K (.ref y) (.ref C) (fun h => PySem.W.InstAt h y oy C od) := by
  obtain ⟨cd, hc⟩ := cls_there c.g4
  unfold PySem.W.clsIn at hc
  split at hc
  · rename_i oc' od' cd' sl' ho
    refine ⟨fun _ _ _ I => I.type, fun M h X _ => ?_, fun h tp dd its n sl X htp => ?_, fun X I k => err_class c X I k⟩
    · intro A' Q' E' s' k q
      unfold isType loadHead
      exact wpAny_bind (wpAny_loadPart (k _ _ (X _ _ ho)) (wpAny_pure q))
    · refine Bool.eq_false_iff.mpr fun q => ?_
      have e : C = tp := Value.ref.inj (beq_iff_eq.mp q)
      subst e
      have z := (X _ _ ho).symm.trans htp
      cases z
  · cases hc
/-- isinstance(e, c): e the error that the suite holds -/
def rErr (K : Fr) (C a dd : Addr) : List V → Hp → VK → Prop := fun xs H Q => ∃ (c : V) (u : Value) (fs : List (Str × V)) (b : Bool), xs = [.ref a, c] ∧ H dd = some (.xd fs) ∧ ClsV c u ∧ PySem.W.kitOne K (.ref C) u = some b ∧ Q (.bl b) H
def rErrT (K : Fr) (C a dd : Addr) : List V → Hp → VK → Prop := fun xs H Q => ∃ (tp : Addr) (cs : List V) (us : List Value) (fs : List (Str × V)) (b : Bool), xs = [.ref a, .ref tp] ∧ H dd = some (.xd fs) ∧ H tp = some (.tup cs) ∧ Paired ClsV cs us ∧ PySem.W.kitAny K (.ref C) us = some b ∧ Q (.bl b) H
section
variable {X : Cx} {a C dd : Addr} {oe : Obj} {pn : List (Addr × Obj)}
theorem err_at {pins : List (Addr × Obj)} {σ : L2.St} {H : Hp} {s : Shared} {fs : List (Str × V)} (hz : Zc (.ref C) (some dd) oe) (hf : ∃ vs, oe.data = .fields vs) (I : L2.Inv (X.suite a ((a, oe) :: pn)) pins σ H s) (ea : H dd = some (.xd fs)) :
    ∃ od, PySem.W.InstAt s.heap a oe C (some od) := by
  obtain ⟨ha, _⟩ := I.pin (a, oe) (List.mem_append_left _ List.mem_cons_self)
  obtain ⟨vs, hd⟩ := hf
  have hx : ObjOk X.prog X.w H s.heap dd (.xd fs) := I.hok dd _ ea
  obtain ⟨mA, hns, hr⟩ := hx
  obtain ⟨od, ho, hl⟩ := lookIn_ns hns
  exact ⟨od, ⟨ha, hz.1, by unfold PySem.W.notCls; rw [hd] <;> rfl, by rw [hz.2]; exact ho⟩⟩
theorem call_err (c : ErrC X.K C) (hz : Zc (.ref C) (some dd) oe) (hf : ∃ vs, oe.data = .fields vs) : CallR (X.suite a ((a, oe) :: pn)) (.builtin "isinstance") (rErr X.K C a dd) := by
  intro pins s σ H xs us Q I r h
  obtain ⟨x, u, fs, b, rfl, ea, k, e, q⟩ := h
  obtain ⟨u1, u2, rfl, r1, r2⟩ := vals2 r
  have e2 := k.eq r2
  subst e2
  cases (show u1 = Value.ref a from r1)
  obtain ⟨od, J⟩ := err_at hz hf I ea
  exact PySem.W.kia_one (kitx_err c) I.kIn J e (fun z => nomatch z) fun tk => ⟨.bl b, H, I.tok tk, rfl, q⟩
theorem call_errT (c : ErrC X.K C) (hz : Zc (.ref C) (some dd) oe) (hf : ∃ vs, oe.data = .fields vs) : CallR (X.suite a ((a, oe) :: pn)) (.builtin "isinstance") (rErrT X.K C a dd) := by
  intro pins s σ H xs us Q I r h
  obtain ⟨tp, cs, ws, fs, b, rfl, ea, hT, k, e, q⟩ := h
  obtain ⟨u1, u2, rfl, r1, r2⟩ := vals2 r
  cases (show u2 = Value.ref tp from r2)
  cases (show u1 = Value.ref a from r1)
  obtain ⟨od, J⟩ := err_at hz hf I ea
  obtain ⟨_, its, rv, o, h1, h2, n, h3⟩ := (show ObjOk X.prog X.w H s.heap tp (.tup cs) from I.hok tp _ hT)
  have e3 := ClsV.all k rv
  subst e3
  obtain ⟨oc, oo, dt, sl⟩ := o
  simp only at h2 h3
  subst h2 h3
  exact PySem.W.kia_tup (kitx_err c) I.kIn J h1 e (fun z => nomatch z) fun tk => ⟨.bl b, H, I.tok tk, rfl, q⟩
end
/-! ### classes as values -/
/-- a class: a built-in type, or the class object at C -/
def clsOf (K : Fr) : Val → Option Value
  | .ty n => some (.type n)
  | .ref C => some (.ref C)
  | _ => none
theorem clsV_of {K : Fr} {S : Hp} {x : Val} {w : V} {u : Value} (r : Rel K S x w) (h : clsOf K x = some u) : ClsV w u := by
  cases x with
  | ty n => rw [rel_ty] at r; subst r; cases h; exact .ty n
  | ref C => rw [rel_ref] at r; subst r; cases h; exact .own C
  | _ => cases h
def clsAll (K : Fr) : List Val → Option (List Value)
  | [] => some []
  | x :: xs => (clsOf K x).bind fun u => (clsAll K xs).bind fun us => some (u :: us)
theorem clsVs_of {K : Fr} {S : Hp} : ∀ {xs : List Val} {ws : List V} {us : List Value}, Rels K S xs ws → clsAll K xs = some us → Paired ClsV ws us
  | [], _, _, r, h => by rw [rels_nil] at r; subst r; cases h; exact .nil
  | x :: xs, _, _, r, h => by
    rw [rels_cons] at r
    obtain ⟨w, ws, rfl, r1, r2⟩ := r
    unfold clsAll at h
    obtain ⟨u, e1, h⟩ := Option.bind_eq_some_iff.mp h
    obtain ⟨us, e2, h⟩ := Option.bind_eq_some_iff.mp h
    cases h
    exact .cons (clsV_of r1 e1) (clsVs_of r2 e2)
/-- the readings of isinstance(e, c), isinstance(e, (c1, c2, ..)) -/
def cErr (K : Fr) (C a dd : Addr) : WC := fun vs h Q => ∃ v x u b, vs = [.exc a dd v, x] ∧ clsOf K x = some u ∧ PySem.W.kitOne K (.ref C) u = some b ∧ Q (.bl b) h
def cErrT (K : Fr) (C a dd : Addr) : WC := fun vs h Q => ∃ v xs us b, vs = [.exc a dd v, .tup xs] ∧ clsAll K xs = some us ∧ PySem.W.kitAny K (.ref C) us = some b ∧ Q (.bl b) h
theorem s_err {K : Fr} {C a dd : Addr} : SndC K (cErr K C a dd) (rErr K C a dd) := fun S F H h xs vs Q' Q r rx q lq => by
  obtain ⟨v, x, u, b, rfl, e, k, q⟩ := q
  rw [rels_cons] at rx
  obtain ⟨w, ws, rfl, r1, rx⟩ := rx
  rw [rels_cons] at rx
  obtain ⟨w2, ws2, rfl, r2, rx⟩ := rx
  rw [rels_nil] at rx
  subst rx
  rw [rel_exc] at r1
  obtain ⟨rfl, y, hy, _⟩ := r1
  exact ⟨w2, u, _, b, rfl, r.sub _ _ hy, clsV_of r2 e, k, lq _ _ S _ _ q (Sub.refl S) r (rel_bl.mpr rfl)⟩
theorem s_errT {K : Fr} {C a dd : Addr} : SndC K (cErrT K C a dd) (rErrT K C a dd) := fun S F H h xs vs Q' Q r rx q lq => by
  obtain ⟨v, x, u, b, rfl, e, k, q⟩ := q
  rw [rels_cons] at rx
  obtain ⟨w, ws, rfl, r1, rx⟩ := rx
  rw [rels_cons] at rx
  obtain ⟨w2, ws2, rfl, r2, rx⟩ := rx
  rw [rels_nil] at rx
  subst rx
  rw [rel_exc] at r1
  obtain ⟨rfl, y, hy, _⟩ := r1
  rw [rel_tup] at r2
  obtain ⟨tp, cs, rfl, ht, r3⟩ := r2
  exact ⟨tp, cs, u, _, b, rfl, r.sub _ _ hy, r.sub _ _ ht, clsVs_of r3 e, k, lq _ _ S _ _ q (Sub.refl S) r (rel_bl.mpr rfl)⟩
/-! ### e.what -/
section
variable {X : Cx} {W : WX} {pos : Pos} {a C dd : Addr} {oe : Obj} {pn : List (Addr × Obj)} {e : Expr} {te : WE}
def wXf (a dd : Addr) (te : WE) : WE := fun ρ h E Q => te ρ h E fun x h1 => ∃ v, x = .exc a dd v ∧ Q v h1
theorem zxf (c : ErrC X.K C) (hz : Zc (.ref C) (some dd) oe) (hf : ∃ vs, oe.data = .fields vs) (he : ZE (X.suite a ((a, oe) :: pn)) W e te) (hb : attributeBase e "what" X.env (eval e X.env) = eval e X.env := by rfl) :
    ZE (X.suite a ((a, oe) :: pn)) W (.Attribute e "what" pos) (wXf a dd te) :=
  ⟨pe_imp (pe_xf (te := lE X.K W te) ⟨c.g1, c.g2, c.g3, c.g4⟩ c.g9 hz hf he.pe hb) fun σ H Q ⟨S, F, ρ, h, E', Q', r, rl, q, lq, lx⟩ =>
    ⟨S, F, ρ, h, E', _, r, rl, q, fun x h1 S1 w H1 q1 s1 r1 x1 => by
      obtain ⟨v, rfl, q1⟩ := q1
      rw [rel_exc] at x1
      obtain ⟨rfl, u, hu, ru⟩ := x1
      exact ⟨rfl, rfl, dd, _, u, rfl, r1.sub _ _ hu, by simp, lq _ _ _ _ _ q1 s1 r1 ru⟩, lx⟩⟩
end
/-! ### try -/
section
variable {X : Cx} {W : WX} {x n : Str} {c : Addr} {i : Nat} {body suite : List Stmt} {b₀ : Stmt} {np pos pos' : Pos} {tb : WS} {ts : Addr → Addr → Addr → WS} {subs nots : List Addr}
/-- try: tb / except of subs as slot i: ts (of nots: not caught) -/
def wTryAs (subs nots : List Addr) (i : Nat) (tb : WS) (ts : Addr → Addr → Addr → WS) : WS := fun nx rt bk ct xe ρ h =>
  tb nx rt bk ct (fun C v ρ1 h1 => (C ∈ subs ∧ ∀ a dd, h1 a = none → ts a C dd (fun ρ2 h2 => nx (ρ2.set i none) h2) rt (fun ρ2 h2 => bk (ρ2.set i none) h2) (fun ρ2 h2 => ct (ρ2.set i none) h2) (fun _ _ _ _ => False) (ρ1.set i (some (.exc a dd v))) h1) ∨ (C ∈ nots ∧ xe C v ρ1 h1)) ρ h
def wTryOnly (subs nots : List Addr) (tb ts : WS) : WS := fun nx rt bk ct xe ρ h =>
  tb nx rt bk ct (fun C v ρ1 h1 => (C ∈ subs ∧ ts nx rt bk ct (fun _ _ _ _ => False) ρ1 h1) ∨ (C ∈ nots ∧ xe C v ρ1 h1)) ρ h
theorem ln_unset {K : Fr} {S F : Hp} {nx : EH} {N : L2.St → Hp → Prop} (i : Nat) (l : LN K S F nx N) : LN K S F (fun ρ h => nx (ρ.set i none) h) (fun σ H => N (σ.set i none) H) := fun ρ h' S' σ H' q s r rl => l _ _ _ _ _ q s r (rl.unset i)
theorem lxs_no {K : Fr} {S F : Hp} {W : WX} : LXS K S F (fun _ _ _ _ => False) W := fun _ _ _ _ _ _ _ _ _ z => z.elim
theorem zs_try_as (hs : X.stack = X.env :: X.outer) (hf : X.env.frame = some X.env.locals) (hN : X.N.Nodup) (hi : X.N[i]? = some n) (hln : X.env.kindOf n = some .local) (hc : Names X x (.ref c)) (tk : Takes X W)
    (hsub : ∀ C ∈ subs, PySem.W.exmOne X.K (.ref C) (.ref c) = some true) (hnot : ∀ C ∈ nots, PySem.W.exmOne X.K (.ref C) (.ref c) = some false)
    (hb : ∀ (W' : WX) (pn : List (Addr × Obj)) (xe : Value → Shared → Prop), Takes (X.tr pn xe) W' → PassesOwn (model X.prog X.w) X.A X.env xe → ZB (X.tr pn xe) W' body tb)
    (hsu : ∀ (a : Addr) (oe : Obj) (C dd : Addr) (pn : List (Addr × Obj)), C ∈ subs → Zc (.ref C) (some dd) oe → (∃ vs, oe.data = .fields vs) → ZB (X.suite a ((a, oe) :: pn)) WF (b₀ :: suite) (ts a C dd)) :
    ZS X W (.Try body [.ExceptHandler (some (.Name x np)) (some n) (b₀ :: suite) pos'] [] [] pos) (wTryAs subs nots i tb ts) :=
  ⟨ps_imp (ps_try_as (tb := fun W' => lS X.K W' tb) (ts := fun a cls d D σ H => ∃ C dd, C ∈ subs ∧ cls = .ref C ∧ d = some dd ∧ lS X.K WF (ts a C dd) D σ H) (Wout := W) hs hf hN hi hln hc tk (fun W' pn xe tk' ps' => (hb W' pn xe tk' ps').pss)
      (fun a oe cls d pn hz hv => ⟨fun pins s σ H D I ⟨C, dd, hC, e1, e2, h⟩ => by
        subst e1 e2
        exact (hsu a oe C dd pn hC hz hv).pss.run pins s σ H D I h⟩))
    fun D σ H ⟨S, F, ρ, h, nx, rt, bk, ct, xe, r, rl, q, ln, lr, lb, lc, lx⟩ => ⟨S, F, ρ, h, nx, rt, bk, ct, _, r, rl, q, ln, lr, lb, lc, fun C v ρ1 h1 S1 w d σ1 H1 q1 s1 r1 rl1 rv hd => by
      rcases q1 with ⟨hC, q1⟩ | ⟨hC, q1⟩
      · refine ⟨true, hsub C hC, fun _ a na => ⟨C, d, hC, rfl, rfl, S1, F, _, h1, _, rt, _, _, _, r1, rl1.set i (rel_exc.mpr ⟨rfl, w, hd, rv⟩), q1 a d (r1.fresh na), ln_unset i (ln.mono s1), lr.mono s1, ln_unset i (lb.mono s1), ln_unset i (lc.mono s1), lxs_no⟩, (fun z => by cases z)⟩
      · exact ⟨false, hnot C hC, (fun z => by cases z), fun _ => lx C v ρ1 h1 S1 w d σ1 H1 q1 s1 r1 rl1 rv hd⟩⟩⟩
theorem zs_try_only {ts : WS} (hs : X.stack = X.env :: X.outer) (hf : X.env.frame = some X.env.locals) (hc : Names X x (.ref c)) (tk : Takes X W)
    (hsub : ∀ C ∈ subs, PySem.W.exmOne X.K (.ref C) (.ref c) = some true) (hnot : ∀ C ∈ nots, PySem.W.exmOne X.K (.ref C) (.ref c) = some false)
    (hb : ∀ (W' : WX) (pn : List (Addr × Obj)) (xe : Value → Shared → Prop), Takes (X.tr pn xe) W' → PassesOwn (model X.prog X.w) X.A X.env xe → ZB (X.tr pn xe) W' body tb)
    (hsu : ∀ (a : Addr) (oe : Obj) (pn : List (Addr × Obj)), ZB (X.suite a ((a, oe) :: pn)) WF (b₀ :: suite) ts) :
    ZS X W (.Try body [.ExceptHandler (some (.Name x np)) none (b₀ :: suite) pos'] [] [] pos) (wTryOnly subs nots tb ts) :=
  ⟨ps_imp (ps_try_only (tb := fun W' => lS X.K W' tb) (ts := fun a cls d D σ H => lS X.K WF ts D σ H) (Wout := W) hs hf hc tk (fun W' pn xe tk' ps' => (hb W' pn xe tk' ps').pss)
      (fun a oe cls d pn hz hv => (hsu a oe pn).pss))
    fun D σ H ⟨S, F, ρ, h, nx, rt, bk, ct, xe, r, rl, q, ln, lr, lb, lc, lx⟩ => ⟨S, F, ρ, h, nx, rt, bk, ct, _, r, rl, q, ln, lr, lb, lc, fun C v ρ1 h1 S1 w d σ1 H1 q1 s1 r1 rl1 rv hd => by
      rcases q1 with ⟨hC, q1⟩ | ⟨hC, q1⟩
      · exact ⟨true, hsub C hC, fun _ a na => ⟨S1, F, _, h1, nx, rt, bk, ct, _, r1, rl1, q1, ln.mono s1, lr.mono s1, lb.mono s1, lc.mono s1, lxs_no⟩, (fun z => by cases z)⟩
      · exact ⟨false, hnot C hC, (fun z => by cases z), fun _ => lx C v ρ1 h1 S1 w d σ1 H1 q1 s1 r1 rl1 rv hd⟩⟩⟩
end
theorem all_nil {α : Type} {P : α → Prop} : ∀ x ∈ ([] : List α), P x := fun _ h => by simp at h
theorem all_cons {α : Type} {P : α → Prop} {a : α} {l : List α} (h : P a) (r : ∀ x ∈ l, P x) : ∀ x ∈ a :: l, P x := fun x hx => by
  rcases List.mem_cons.mp hx with rfl | hx
  · exact h
  · exact r x hx
theorem ze_imp {X : Cx} {W : WX} {e : Expr} {t t' : WE} (h : ZE X W e t) (i : ∀ ρ h E Q, t' ρ h E Q → t ρ h E Q) : ZE X W e t' :=
  ⟨pe_imp h.pe fun σ H Q ⟨S, F, ρ, h, E', Q', r, rl, q, lq, lx⟩ => ⟨S, F, ρ, h, E', Q', r, rl, i _ _ _ _ q, lq, lx⟩⟩
/-- an own class as a value -/
theorem zcls {X : Cx} {W : WX} {x : Str} {C : Addr} {pos : Pos} (hg : Gl X x) (hm : X.mg x = some (.ref C)) (hd : (x == ("__debug__" : Str)) = false := by decide) : ZE X W (.Name x pos) (wC (.ref C)) :=
  zglob (w := .ref C) hg hm rfl (fun _ => rel_ref.mpr rfl) hd
/-- isinstance of the held error: the answer is known -/
def wErrIs (b : Bool) (a dd : Addr) (i : Nat) : WE := fun ρ h E Q => ∃ v, ρ[i]? = some (some (.exc a dd v)) ∧ Q (.bl b) h
/-- classes, none of which is the error's -/
inductive ZNo (X : Cx) (W : WX) (K : Fr) (C : Addr) : List Expr → List Val → List Value → Prop where
  | nil : ZNo X W K C [] [] []
  | cons {e : Expr} {es : List Expr} {D : Addr} {xs : List Val} {us : List Value} (h : ZE X W e (wC (.ref D))) (k : PySem.W.kitOne K (.ref C) (.ref D) = some false) (r : ZNo X W K C es xs us)
      (hs : starEach (e :: es) X.env = (false, eval e X.env) :: starEach es X.env := by rfl) : ZNo X W K C (e :: es) (.ref D :: xs) (.ref D :: us)
def wVals : List Val → WA
  | [] => wNil
  | x :: xs => wCons (wC x) (wVals xs)
theorem wVals_of : ∀ (xs : List Val) {ρ h E} {Q : List Val → Hh → Prop}, Q xs h → wVals xs ρ h E Q
  | [], _, _, _, _, q => q
  | x :: xs, ρ, h, E, Q, q => wVals_of xs (Q := fun ys h2 => Q (x :: ys) h2) q
theorem ZNo.za {X : Cx} {W : WX} {K : Fr} {C : Addr} : ∀ {es : List Expr} {xs : List Val} {us : List Value}, ZNo X W K C es xs us → ZA X W es (wVals xs)
  | _, _, _, .nil => za_nil
  | _, _, _, .cons h k r hs => za_cons h r.za hs
theorem ZNo.cls {X : Cx} {W : WX} {K : Fr} {C : Addr} : ∀ {es : List Expr} {xs : List Val} {us : List Value}, ZNo X W K C es xs us → clsAll K xs = some us
  | _, _, _, .nil => rfl
  | _, _, _, .cons h k r hs => by
    unfold clsAll
    rw [r.cls]
    rfl
theorem ZNo.kit {X : Cx} {W : WX} {K : Fr} {C : Addr} : ∀ {es : List Expr} {xs : List Val} {us : List Value}, ZNo X W K C es xs us → PySem.W.kitAny K (.ref C) us = some false
  | _, _, _, .nil => kitAny_nil
  | _, _, _, .cons h k r hs => kitAny_cons k (fun _ => r.kit) (fun z => by cases z)
theorem ZNo.len {X : Cx} {W : WX} {K : Fr} {C : Addr} : ∀ {es : List Expr} {xs : List Val} {us : List Value}, ZNo X W K C es xs us → xs.length = es.length
  | _, _, _, .nil => rfl
  | _, _, _, .cons h k r hs => by simp [r.len]
section
variable {X : Cx} {W : WX} {pos p : Pos} {a C dd : Addr} {oe : Obj} {pn : List (Addr × Obj)} {e x : Expr} {i : Nat} {u : Value} {b : Bool} {cv : Val}
theorem zerr_is (c : ErrC X.K C) (hz : Zc (.ref C) (some dd) oe) (hf : ∃ vs, oe.data = .fields vs) (hg : Gl (X.suite a ((a, oe) :: pn)) "isinstance") (hm : X.mg "isinstance" = none) (ha : ZA (X.suite a ((a, oe) :: pn)) W [e, x] (wCons (wVar i) (wCons (wC cv) wNil))) (hu : clsOf X.K cv = some u) (k : PySem.W.kitOne X.K (.ref C) u = some b)
    (he : starEach [e, x] X.env = (false, eval e X.env) :: starEach [x] X.env := by rfl) (hpl : (backTo pos (starEach [x] X.env)).any (·.1) = false := by rfl) :
    ZE (X.suite a ((a, oe) :: pn)) W (.Call (.Name "isinstance" p) [e, x] [] pos) (wErrIs b a dd i) :=
  ze_imp (zcallB (X := X.suite a ((a, oe) :: pn)) (call_err c hz hf) s_err hg hm (by decide +kernel) ha (he := he) (hpl := hpl)) fun ρ h E Q ⟨v, ev, q⟩ => ⟨_, ev, v, cv, u, b, rfl, hu, k, q⟩
theorem zerr_no {es : List Expr} {xs : List Val} {us : List Value} {x1 : Pos} (c : ErrC X.K C) (hz : Zc (.ref C) (some dd) oe) (hf : ∃ vs, oe.data = .fields vs) (hg : Gl (X.suite a ((a, oe) :: pn)) "isinstance") (hm : X.mg "isinstance" = none) (hv : ZE (X.suite a ((a, oe) :: pn)) W e (wVar i)) (zn : ZNo (X.suite a ((a, oe) :: pn)) W X.K C es xs us) (hl : xs.length ≤ 1000)
    (he : starEach [e, .Tuple es c0 x1] X.env = (false, eval e X.env) :: starEach [.Tuple es c0 x1] X.env := by rfl) (he2 : starEach [.Tuple es c0 x1] X.env = (false, eval (.Tuple es c0 x1) X.env) :: starEach [] X.env := by rfl) (hpl : (backTo pos (starEach [.Tuple es c0 x1] X.env)).any (·.1) = false := by rfl) :
    ZE (X.suite a ((a, oe) :: pn)) W (.Call (.Name "isinstance" p) [e, .Tuple es c0 x1] [] pos) (wErrIs false a dd i) :=
  ze_imp (zcallB (X := X.suite a ((a, oe) :: pn)) (call_errT c hz hf) s_errT hg hm (by decide +kernel) (za_cons hv (za_cons (ztup zn.za) za_nil he2) he) (he := he) (hpl := hpl)) fun ρ h E Q ⟨v, ev, q⟩ =>
    ⟨_, ev, wVals_of xs (Q := fun ys h2 => small ys.length ∧ _) ⟨by unfold small; omega, v, xs, us, false, rfl, zn.cls, zn.kit, q⟩⟩
end
/-! ZI -/
/-! more of lists: extend, insert, clear, times -/
/-- a list whose items can be read: owned, or never changed again -/
inductive Lsq (h : Hh) : Val → List Val → Prop where
  | lst (xs) : Lsq h (.lst xs) xs
  | ref {a xs} : h a = some (.lst xs) → Lsq h (.ref a) xs
theorem Lsq.l {K : Fr} {S F H : Hp} {h : Hh} {x : Val} {xs : List Val} {v : V} (q : Lsq h x xs) (r : R K S F H h) (rx : Rel K S x v) : ∃ b ws, v = .ref b ∧ H b = some (.lst ws) ∧ Rels K S xs ws := by
  cases q with
  | lst =>
    rw [rel_lst] at rx
    obtain ⟨a, ws, rfl, h1, h2⟩ := rx
    exact ⟨a, ws, rfl, r.sub _ _ h1, h2⟩
  | ref e =>
    rw [rel_ref] at rx
    obtain ⟨_, u, h1, ws, rfl, h2⟩ := r.own _ _ e
    exact ⟨_, ws, rx, h1, h2⟩
def mExtend : WM := fun x vs h Q => ∃ l xs y ys, x = .ref l ∧ vs = [y] ∧ h l = some (.lst xs) ∧ Lsq h y ys ∧ small (xs.length + ys.length) ∧ Q .non (hup h l (.lst (xs ++ ys)))
theorem s_extend {K : Fr} : SndM K mExtend rExtend := fun S F H h x v xs vs Q' Q r rx rxs q lq => by
  obtain ⟨l, ys, y, zs, rfl, rfl, e, sq, hl, q⟩ := q
  obtain ⟨w, rfl, x1⟩ := rels_1 rxs
  rw [rel_ref] at rx
  obtain ⟨_, u, h1, ws, rfl, h2⟩ := r.own _ _ e
  obtain ⟨b, us, rfl, h3, h4⟩ := sq.l r x1
  exact ⟨l, b, ws, us, rx, rfl, h1, h3, by rw [← h2.length, ← h4.length]; exact hl.line, lq _ _ S _ _ q (Sub.refl S) (r.store e ⟨_, rfl, h2.app h4⟩) (rel_non.mpr rfl)⟩
def mClear : WM := fun x vs h Q => ∃ l xs, x = .ref l ∧ vs = [] ∧ h l = some (.lst xs) ∧ Q .non (hup h l (.lst []))
theorem s_clear {K : Fr} : SndM K mClear rClear := fun S F H h x v xs vs Q' Q r rx rxs q lq => by
  obtain ⟨l, ys, rfl, rfl, e, q⟩ := q
  rw [rels_nil] at rxs
  rw [rel_ref] at rx
  obtain ⟨_, u, h1, ws, rfl, h2⟩ := r.own _ _ e
  exact ⟨l, ws, rx, rxs, h1, lq _ _ S _ _ q (Sub.refl S) (r.store e ⟨_, rfl, rels_nil.mpr rfl⟩) (rel_non.mpr rfl)⟩
def mInsert : WM := fun x vs h Q => ∃ l xs i y, x = .ref l ∧ vs = [.int i, y] ∧ h l = some (.lst xs) ∧ xs.length < 16000000 ∧ 0 ≤ i ∧ i < 2 ^ 63 ∧ Q .non (hup h l (.lst (xs.take i.toNat ++ [y] ++ xs.drop i.toNat)))
theorem s_insert {K : Fr} : SndM K mInsert (fun x vs H Q => ∃ (l : Addr) (xs : List V) (i : Int) (y : V), x = .ref l ∧ vs = [.int i, y] ∧ H l = some (.lst xs) ∧ xs.length < sizeLine ∧ 0 ≤ i ∧ i < 2 ^ 63 ∧
    Q .non (upd H l (.lst (xs.take i.toNat ++ [y] ++ xs.drop i.toNat)))) := fun S F H h x v xs vs Q' Q r rx rxs q lq => by
  obtain ⟨l, ys, i, y, rfl, rfl, e, hl, b1, b2, q⟩ := q
  rw [rels_cons] at rxs
  obtain ⟨w1, r1, rfl, x1, rxs⟩ := rxs
  obtain ⟨w2, rfl, x2⟩ := rels_1 rxs
  rw [rel_ref] at rx
  rw [rel_int] at x1
  subst x1
  obtain ⟨_, u, h1, ws, rfl, h2⟩ := r.own _ _ e
  have hz := sizeLine_eq
  exact ⟨l, ws, i, w2, rx, rfl, h1, by rw [← h2.length]; omega, b1, b2, lq _ _ S _ _ q (Sub.refl S) (r.store e ⟨_, rfl, ((h2.take _).app (Rels.one x2)).app (h2.drop _)⟩) (rel_non.mpr rfl)⟩
/-- [..] * n -/
def wRep : W2 := fun x y h Q => ∃ xs k, Lsq h x xs ∧ y = .int k ∧ -(2 ^ 63) ≤ k ∧ k < 2 ^ 63 ∧ small (xs.length * k.toNat) ∧ NewL (List.replicate k.toNat xs).flatten h Q
theorem rels_rep {K : Fr} {S : Hp} {xs : List Val} {ws : List V} (r : Rels K S xs ws) : ∀ n : Nat, Rels K S (List.replicate n xs).flatten (List.replicate n ws).flatten
  | 0 => rels_nil.mpr rfl
  | n + 1 => by
    rw [List.replicate_succ, List.replicate_succ, List.flatten_cons, List.flatten_cons]
    exact r.app (rels_rep r n)
theorem s_rep {K : Fr} : Snd2 K wRep rRep := fun S F H h x y v w Q' Q r rx ry q lq => by
  obtain ⟨xs, k, sq, rfl, b1, b2, hs, q⟩ := q
  obtain ⟨b, ws, rfl, h1, h2⟩ := sq.l r rx
  rw [rel_int] at ry
  exact ⟨b, k, ws, rfl, ry, h1, b1, b2, by rw [← h2.length]; exact hs.line, fun p hp => newl r (rels_rep h2 _) q lq hp⟩
theorem i_extend {l : Addr} {xs ys : List Val} {y : Val} {h : Hh} {Q : KQ} (e : h l = some (.lst xs)) (sq : Lsq h y ys) (hs : xs.length + ys.length ≤ 16000000) (q : Q .non (hup h l (.lst (xs ++ ys)))) : mExtend (.ref l) [y] h Q := ⟨l, xs, y, ys, rfl, rfl, e, sq, hs, q⟩
theorem i_clear {l : Addr} {xs : List Val} {h : Hh} {Q : KQ} (e : h l = some (.lst xs)) (q : Q .non (hup h l (.lst []))) : mClear (.ref l) [] h Q := ⟨l, xs, rfl, rfl, e, q⟩
theorem i_insert {l : Addr} {xs : List Val} {i : Int} {y : Val} {h : Hh} {Q : KQ} (e : h l = some (.lst xs)) (hs : xs.length < 16000000) (b1 : 0 ≤ i) (b2 : i < 2 ^ 63) (q : Q .non (hup h l (.lst (xs.take i.toNat ++ [y] ++ xs.drop i.toNat)))) : mInsert (.ref l) [.int i, y] h Q := ⟨l, xs, i, y, rfl, rfl, e, hs, b1, b2, q⟩
theorem i_rep {x : Val} {xs : List Val} {k : Int} {h : Hh} {Q : KQ} (sq : Lsq h x xs) (b1 : -(2 ^ 63) ≤ k) (b2 : k < 2 ^ 63) (hs : xs.length * k.toNat ≤ 16000000) (q : NewL (List.replicate k.toNat xs).flatten h Q) : wRep x (.int k) h Q := ⟨xs, k, sq, rfl, b1, b2, hs, q⟩
/-! ### a list of lists, each owned -/
structure Nest (h : Hh) (a : Addr) (bs : List Addr) (xss : List (List Val)) : Prop where
  top : h a = some (.lst (bs.map Val.ref))
  len : bs.length = xss.length
  each : ∀ (i : Nat) (b : Addr) (xs : List Val), bs[i]? = some b → xss[i]? = some xs → h b = some (.lst xs)
  nd : (a :: bs).Nodup
section
variable {h h' : Hh} {a b : Addr} {bs : List Addr} {xss : List (List Val)} {xs : List Val} {i : Nat}
theorem Nest.keep (N : Nest h a bs xss) (k : ∀ c, c ∈ a :: bs → h' c = h c) : Nest h' a bs xss :=
  ⟨by rw [k a (by simp)]; exact N.top, N.len, fun i b xs e1 e2 => by rw [k b (List.mem_cons_of_mem _ (List.mem_of_getElem? e1))]; exact N.each i b xs e1 e2, N.nd⟩
theorem Nest.at (N : Nest h a bs xss) (e : xss[i]? = some xs) : ∃ b, bs[i]? = some b ∧ h b = some (.lst xs) ∧ b ≠ a := by
  have hi : i < bs.length := by rw [N.len]; exact (List.getElem?_eq_some_iff.mp e).1
  refine ⟨bs[i], List.getElem?_eq_getElem hi, N.each i _ xs (List.getElem?_eq_getElem hi) e, fun z => ?_⟩
  have := (List.nodup_cons.mp N.nd).1
  exact this (z ▸ List.getElem_mem hi)
theorem Nest.val (N : Nest h a bs xss) (e : bs[i]? = some b) : (bs.map Val.ref)[i]? = some (.ref b) := by rw [List.getElem?_map, e]; rfl
/-- an inner list is changed -/
theorem Nest.inner (N : Nest h a bs xss) (e : bs[i]? = some b) (ys : List Val) : Nest (hup h b (.lst ys)) a bs (xss.set i ys) := by
  have nd := List.nodup_cons.mp N.nd
  have hba : a ≠ b := fun z => nd.1 (z ▸ List.mem_of_getElem? e)
  refine ⟨by rw [hup_ne hba]; exact N.top, by rw [List.length_set]; exact N.len, fun j c xs e1 e2 => ?_, N.nd⟩
  by_cases hj : j = i
  · subst hj
    rw [e] at e1
    cases e1
    have hj2 : j < xss.length := by rw [← N.len]; exact (List.getElem?_eq_some_iff.mp e).1
    rw [List.getElem?_set_self hj2] at e2
    cases e2
    exact hup_same
  · rw [List.getElem?_set_ne (Ne.symm hj)] at e2
    have hcb : c ≠ b := fun z => by
      subst z
      have h1 := (List.getElem?_eq_some_iff.mp e1).1
      have h2 := (List.getElem?_eq_some_iff.mp e).1
      exact hj ((List.getElem?_inj h1 nd.2).mp (e1.trans e.symm))
    rw [hup_ne hcb]
    exact N.each j c xs e1 e2
/-- the outer list is changed -/
theorem Nest.outer {bs' : List Addr} {xss' : List (List Val)} (hl : bs'.length = xss'.length) (he : ∀ (i : Nat) (b : Addr) (xs : List Val), bs'[i]? = some b → xss'[i]? = some xs → h b = some (.lst xs)) (hn : (a :: bs').Nodup) : Nest (hup h a (.lst (bs'.map Val.ref))) a bs' xss' := by
  have nd := List.nodup_cons.mp hn
  refine ⟨hup_same, hl, fun j c xs e1 e2 => ?_, hn⟩
  rw [hup_ne (fun z => by subst z; exact nd.1 (List.mem_of_getElem? e1))]
  exact he j c xs e1 e2
theorem Nest.erase (N : Nest h a bs xss) (i : Nat) : Nest (hup h a (.lst ((bs.map Val.ref).eraseIdx i))) a (bs.eraseIdx i) (xss.eraseIdx i) := by
  have nd := List.nodup_cons.mp N.nd
  rw [show (bs.map Val.ref).eraseIdx i = (bs.eraseIdx i).map Val.ref by rw [List.eraseIdx_eq_take_drop_succ, List.eraseIdx_eq_take_drop_succ, List.map_append, List.map_take, List.map_drop]]
  refine Nest.outer (by rw [List.length_eraseIdx, List.length_eraseIdx, N.len]) (fun j b xs e1 e2 => ?_) (List.nodup_cons.mpr ⟨fun z => nd.1 (List.mem_of_mem_eraseIdx z), nd.2.eraseIdx i⟩)
  rw [List.getElem?_eraseIdx] at e1 e2
  split at e1
  · rename_i hj
    rw [if_pos hj] at e2
    exact N.each j b xs e1 e2
  · rename_i hj
    rw [if_neg hj] at e2
    exact N.each (j + 1) b xs e1 e2
theorem Nest.clear : Nest (hup h a (.lst [])) a [] [] := ⟨hup_same, rfl, fun i b xs e => by simp at e, by simp⟩
/-- a new inner list is put somewhere -/
theorem Nest.app (N : Nest h a bs xss) (hb : h b = none) : Nest (hup (hup h b (.lst xs)) a (.lst (bs.map Val.ref ++ [.ref b]))) a (bs ++ [b]) (xss ++ [xs]) := by
  have nd := List.nodup_cons.mp N.nd
  have e : bs.map Val.ref ++ [.ref b] = (bs ++ [b]).map Val.ref := by simp
  have hnb : b ∉ bs := fun z => by
    obtain ⟨i, hi, rfl⟩ := List.getElem_of_mem z
    have := N.each i bs[i] (xss[i]'(N.len ▸ hi)) (List.getElem?_eq_getElem hi) (List.getElem?_eq_getElem _)
    rw [hb] at this
    cases this
  have hba : b ≠ a := fun z => by subst z; rw [N.top] at hb; cases hb
  rw [e]
  refine Nest.outer (by simp [N.len]) (fun j c ys e1 e2 => ?_) ?_
  · by_cases hj : j < bs.length
    · rw [List.getElem?_append_left hj] at e1
      rw [List.getElem?_append_left (N.len ▸ hj)] at e2
      rw [hup_ne (fun z => by subst z; exact hnb (List.mem_of_getElem? e1))]
      exact N.each j c ys e1 e2
    · rw [List.getElem?_append_right (by omega)] at e1
      rw [List.getElem?_append_right (by rw [← N.len]; omega), ← N.len] at e2
      cases hz : j - bs.length with
      | zero =>
        rw [hz] at e1 e2
        simp at e1 e2
        subst e1 e2
        exact hup_same
      | succ n =>
        rw [hz] at e1
        simp at e1
  · rw [List.nodup_cons]
    refine ⟨by simp [nd.1, hba.symm], ?_⟩
    rw [List.nodup_append]
    exact ⟨nd.2, by simp, fun x hx y hy => by simp at hy; subst hy; exact fun z => hnb (z ▸ hx)⟩
theorem Nest.front (N : Nest h a bs xss) (hb : h b = none) : Nest (hup (hup h b (.lst xs)) a (.lst (.ref b :: bs.map Val.ref))) a (b :: bs) (xs :: xss) := by
  have nd := List.nodup_cons.mp N.nd
  have hnb : b ∉ bs := fun z => by
    obtain ⟨i, hi, rfl⟩ := List.getElem_of_mem z
    have := N.each i bs[i] (xss[i]'(N.len ▸ hi)) (List.getElem?_eq_getElem hi) (List.getElem?_eq_getElem _)
    rw [hb] at this
    cases this
  have hba : b ≠ a := fun z => by subst z; rw [N.top] at hb; cases hb
  refine Nest.outer (bs' := b :: bs) (by simp [N.len]) (fun j c ys e1 e2 => ?_) ?_
  · cases j with
    | zero => simp at e1 e2; subst e1 e2; exact hup_same
    | succ j =>
      simp at e1 e2
      rw [hup_ne (fun z => by subst z; exact hnb (List.mem_of_getElem? e1))]
      exact N.each j c ys e1 e2
  · rw [List.nodup_cons]
    exact ⟨by simp [nd.1, hba.symm], List.nodup_cons.mpr ⟨hnb, nd.2⟩⟩
/-- one of the addresses is new beside the others -/
theorem Nest.fresh (N : Nest h a bs xss) {c : Addr} (hc : h c = none) : c ∉ a :: bs := fun z => by
  rcases List.mem_cons.mp z with rfl | z
  · rw [N.top] at hc; cases hc
  · obtain ⟨i, hi, rfl⟩ := List.getElem_of_mem z
    have := N.each i bs[i] (xss[i]'(N.len ▸ hi)) (List.getElem?_eq_getElem hi) (List.getElem?_eq_getElem _)
    rw [hc] at this
    cases this
end
def hdelL (L : List Addr) (h : Hh) : Hh := fun b => if b ∈ L then none else h b
theorem hdelL_nil {h : Hh} : hdelL [] h = h := by funext b; simp [hdelL]
theorem hdelL_cons {h : Hh} {a : Addr} {L : List Addr} : hdelL (a :: L) h = hdelL L (hdel h a) := by
  funext b
  unfold hdelL hdel
  by_cases e : b = a
  · subst e
    simp
  · simp [e]
theorem hdelL_snoc {h : Hh} {a : Addr} {L : List Addr} : hdelL (a :: L) h = hdel (hdelL L h) a := by
  funext b
  unfold hdelL hdel
  by_cases e : b = a
  · subst e
    simp
  · simp [e]
theorem hdelL_out {h : Hh} {b : Addr} {L : List Addr} (n : b ∉ L) : hdelL L h b = h b := by unfold hdelL; rw [if_neg n]
theorem hdelL_in {h : Hh} {b : Addr} {L : List Addr} (n : b ∈ L) : hdelL L h b = none := by unfold hdelL; rw [if_pos n]
theorem R.freezeL {K : Fr} {S F H : Hp} : ∀ (bs : List Addr) {h : Hh} {S : Hp}, R K S F H h → bs.Nodup → (∀ b ∈ bs, ∃ xs, h b = some (.lst xs)) →
    ∃ S2, Sub S S2 ∧ R K S2 F H (hdelL bs h) ∧ ∀ b ∈ bs, ∀ xs, h b = some (.lst xs) → ∃ ws, S2 b = some (.lst ws) ∧ Rels K S2 xs ws
  | [], h, S, r, _, _ => ⟨S, Sub.refl S, by rw [hdelL_nil]; exact r, fun b hb => by simp at hb⟩
  | b :: bs, h, S, r, nd, hx => by
    obtain ⟨xs, e⟩ := hx b (by simp)
    obtain ⟨u, ⟨ws, rfl, x2⟩, r2, s2⟩ := r.freeze e
    have nd2 := List.nodup_cons.mp nd
    obtain ⟨S3, s3, r3, h3⟩ := R.freezeL (F := F) (H := H) (S := S) bs r2 nd2.2 (fun c hc => by
      have hcb : c ≠ b := fun z => nd2.1 (z ▸ hc)
      rw [hdel_ne hcb]
      exact hx c (by simp [hc]))
    refine ⟨S3, s2.trans s3, by rw [hdelL_cons]; exact r3, fun c hc ys ec => ?_⟩
    rcases List.mem_cons.mp hc with rfl | hc
    · rw [e] at ec
      cases ec
      exact ⟨ws, s3 _ _ upd_same, Rels.mono (s2.trans s3) _ _ x2⟩
    · have hcb : c ≠ b := fun z => nd2.1 (z ▸ hc)
      exact h3 c hc ys (by rw [hdel_ne hcb]; exact ec)
theorem rels_refs {K : Fr} {S : Hp} : ∀ {bs : List Addr} {ws : List V}, Rels K S (bs.map Val.ref) ws → ws = bs.map V.ref
  | [], ws, h => by simpa using rels_nil.mp h
  | b :: bs, ws, h => by
    rw [List.map_cons, rels_cons] at h
    obtain ⟨w, r, rfl, h1, h2⟩ := h
    rw [rel_ref] at h1
    rw [rels_refs h2, h1]
    rfl
theorem rels_lists {K : Fr} {S : Hp} : ∀ {bs : List Addr} {xss : List (List Val)}, bs.length = xss.length → (∀ (i : Nat) (b : Addr) (xs : List Val), bs[i]? = some b → xss[i]? = some xs → ∃ ws, S b = some (.lst ws) ∧ Rels K S xs ws) → Rels K S (xss.map Val.lst) (bs.map V.ref)
  | [], [], _, _ => rels_nil.mpr rfl
  | [], _ :: _, h, _ => by cases h
  | _ :: _, [], h, _ => by cases h
  | b :: bs, xs :: xss, hl, h => by
    rw [List.map_cons, List.map_cons, rels_cons]
    obtain ⟨ws, e1, e2⟩ := h 0 b xs rfl rfl
    exact ⟨_, _, rfl, rel_lst.mpr ⟨b, ws, rfl, e1, e2⟩, rels_lists (by simpa using hl) fun i c ys e1 e2 => h (i + 1) c ys (by simpa using e1) (by simpa using e2)⟩
theorem Good.nest {K : Fr} {Q : KQ} (g : Good K Q) {a : Addr} {bs : List Addr} {xss : List (List Val)} {h : Hh} (N : Nest h a bs xss) (q : Q (.lst (xss.map Val.lst)) (hdelL (a :: bs) h)) : Q (.ref a) h :=
  g _ _ _ _ (fun S F H w r x => by
    have nd := List.nodup_cons.mp N.nd
    obtain ⟨S2, s2, r2, h2⟩ := R.freezeL (S := S) bs r nd.2 fun b hb => by
      obtain ⟨i, hi, rfl⟩ := List.getElem_of_mem hb
      exact ⟨_, N.each i bs[i] (xss[i]'(N.len ▸ hi)) (List.getElem?_eq_getElem hi) (List.getElem?_eq_getElem _)⟩
    have ha : hdelL bs h a = some (.lst (bs.map Val.ref)) := by rw [hdelL_out nd.1]; exact N.top
    obtain ⟨u, ⟨ws, rfl, x3⟩, r3, s3⟩ := r2.freeze ha
    rw [rel_ref] at x
    refine ⟨_, s2.trans s3, by rw [hdelL_snoc]; exact r3, rel_lst.mpr ⟨a, _, x, upd_same, ?_⟩⟩
    have e4 := rels_refs x3
    subst e4
    refine Rels.mono s3 _ _ (rels_lists N.len fun i b xs e1 e2 => ?_)
    exact h2 b (List.mem_of_getElem? e1) xs (N.each i b xs e1 e2)) q
/-! ### steps -/
theorem i_tryAs {subs nots : List Addr} {i : Nat} {tb : WS} {ts : Addr → Addr → Addr → WS} {nx : EH} {rt : KQ} {bk ct : EH} {xe : XS} {ρ : Ev} {h : Hh}
    (q : tb nx rt bk ct (fun C v ρ1 h1 => (C ∈ subs ∧ ∀ a dd, h1 a = none → ts a C dd (fun ρ2 h2 => nx (ρ2.set i none) h2) rt (fun ρ2 h2 => bk (ρ2.set i none) h2) (fun ρ2 h2 => ct (ρ2.set i none) h2) (fun _ _ _ _ => False) (ρ1.set i (some (.exc a dd v))) h1) ∨ (C ∈ nots ∧ xe C v ρ1 h1)) ρ h) : wTryAs subs nots i tb ts nx rt bk ct xe ρ h := q
theorem i_tryOnly {subs nots : List Addr} {tb ts : WS} {nx : EH} {rt : KQ} {bk ct : EH} {xe : XS} {ρ : Ev} {h : Hh}
    (q : tb nx rt bk ct (fun C v ρ1 h1 => (C ∈ subs ∧ ts nx rt bk ct (fun _ _ _ _ => False) ρ1 h1) ∨ (C ∈ nots ∧ xe C v ρ1 h1)) ρ h) : wTryOnly subs nots tb ts nx rt bk ct xe ρ h := q
theorem i_xf {a dd : Addr} {i : Nat} {v : Val} {ρ : Ev} {h : Hh} {E : XQ} {Q : KQ} (e : ρ[i]? = some (some (.exc a dd v))) (q : Q v h) : wXf a dd (wVar i) ρ h E Q := ⟨_, e, v, rfl, q⟩
theorem i_errIs {b : Bool} {a dd : Addr} {i : Nat} {v : Val} {ρ : Ev} {h : Hh} {E : XQ} {Q : KQ} (e : ρ[i]? = some (some (.exc a dd v))) (q : Q (.bl b) h) : wErrIs b a dd i ρ h E Q := ⟨v, e, q⟩
theorem i_bm0 {T : String} {r : WM} {to : WE} {ρ : Ev} {h : Hh} {E : XQ} {Q : KQ} (q : to ρ h E fun x h1 => TyM h1 T x ∧ r x [] h1 Q) : wBM0 T r to ρ h E Q := q
theorem i_intB {k : Bool} {h : Hh} {Q : KQ} (q : Q (.int (if k then 1 else 0)) h) : cInt [.bl k] h Q := .inr ⟨k, rfl, q⟩
theorem i_intI {k : Int} {h : Hh} {Q : KQ} (q : Q (.int k) h) : cInt [.int k] h Q := .inl ⟨k, rfl, q⟩
/-! ### a list unpacked -/
def wgUnl (n : Nat) (t : WGs) : WG := fun v ρ h Q => ∃ xs, Seqq h v xs ∧ xs.length = n ∧ t xs ρ h Q
theorem zg_unl {X : Cx} {pos : Pos} {es : List Expr} {k : Nat} {t : WGs} {n : Nat} (hc : X.calm = true) (h : ZGs X es t) (hl : (assignEach es X.env).length = n := by rfl) (hf : (assignEach es X.env).findIdx? (·.1) = none := by rfl) : ZG X (.Tuple es k pos) (wgUnl n t) :=
  ⟨pg_imp (pg_unl hc h.pgs hl hf) fun w σ H Q ⟨S, F, v, ρ, h, Q', r, rl, x, q, ln⟩ => by
    obtain ⟨xs, sq, hn, q⟩ := q
    obtain ⟨a, ws, e, g1, g2⟩ := sq.l r x
    exact ⟨a, ws, e, g1, by rw [← g2.length]; exact hn, S, F, xs, ρ, h, Q', r, rl, g2, q, ln⟩⟩
theorem i_wgunl {n : Nat} {t : WGs} {xs : List Val} {ρ h} {Q : EH} (e : xs.length = n) (q : t xs ρ h Q) : wgUnl n t (.lst xs) ρ h Q := ⟨xs, .lst xs, e, q⟩
/-! LC1 -/
/-! the steps: one macro -/
local macro_rules | `(tactic| walk_at "hlk") => `(tactic| first | assumption | with_reducible exact hup_same | ((with_reducible refine' (hup_ne ?nn).trans ?tt); (case nn => first | assumption | (refine Ne.symm ?_; assumption)); (case tt => walk_at "hlk")))
local macro_rules | `(tactic| walk_at "zgo") => `(tactic| repeat (first
  | with_reducible refine i_seq ?_
  | with_reducible refine i_op ?_
  | ((with_reducible refine g_var ?_); first
    | with_reducible refine i_var0 ?_
    | with_reducible refine i_var1 ?_
    | with_reducible refine i_var2 ?_
    | with_reducible refine i_var3 ?_
    | with_reducible refine i_var4 ?_
    | with_reducible refine i_var5 ?_
    | with_reducible refine i_var6 ?_
    | with_reducible refine i_var7 ?_
    | with_reducible refine i_var8 ?_
    | with_reducible refine i_var9 ?_
    | with_reducible refine i_var10 ?_
    | with_reducible refine i_var11 ?_
    | with_reducible refine i_var12 ?_
    | with_reducible refine i_var13 ?_
    | with_reducible refine i_var14 ?_
    | with_reducible refine i_var15 ?_
    | with_reducible refine i_var16 ?_
    | with_reducible refine i_var17 ?_
    | with_reducible refine i_var18 ?_
    | with_reducible refine i_var19 ?_
    | with_reducible refine i_var20 ?_
    | with_reducible refine i_var21 ?_
    | with_reducible refine i_var22 ?_
    | with_reducible refine i_var23 ?_
    | with_reducible refine i_var24 ?_
    | with_reducible refine i_var25 ?_)
  | with_reducible refine i_c ?_
  | with_reducible refine i_cons ?_
  | with_reducible refine i_nil ?_
  | with_reducible refine i_asg ?_
  | ((with_reducible refine g_name ?_); first
    | with_reducible refine i_name0 ?_
    | with_reducible refine i_name1 ?_
    | with_reducible refine i_name2 ?_
    | with_reducible refine i_name3 ?_
    | with_reducible refine i_name4 ?_
    | with_reducible refine i_name5 ?_
    | with_reducible refine i_name6 ?_
    | with_reducible refine i_name7 ?_
    | with_reducible refine i_name8 ?_
    | with_reducible refine i_name9 ?_
    | with_reducible refine i_name10 ?_
    | with_reducible refine i_name11 ?_
    | with_reducible refine i_name12 ?_
    | with_reducible refine i_name13 ?_
    | with_reducible refine i_name14 ?_
    | with_reducible refine i_name15 ?_
    | with_reducible refine i_name16 ?_
    | with_reducible refine i_name17 ?_
    | with_reducible refine i_name18 ?_
    | with_reducible refine i_name19 ?_
    | with_reducible refine i_name20 ?_
    | with_reducible refine i_name21 ?_
    | with_reducible refine i_name22 ?_
    | with_reducible refine i_name23 ?_
    | with_reducible refine i_name24 ?_
    | with_reducible refine i_name25 ?_)
  | ((with_reducible refine g_tg1 ?_); first
    | with_reducible refine i_tg1_0 ?_
    | with_reducible refine i_tg1_1 ?_
    | with_reducible refine i_tg1_2 ?_
    | with_reducible refine i_tg1_3 ?_
    | with_reducible refine i_tg1_4 ?_
    | with_reducible refine i_tg1_5 ?_
    | with_reducible refine i_tg1_6 ?_
    | with_reducible refine i_tg1_7 ?_
    | with_reducible refine i_tg1_8 ?_
    | with_reducible refine i_tg1_9 ?_
    | with_reducible refine i_tg1_10 ?_
    | with_reducible refine i_tg1_11 ?_
    | with_reducible refine i_tg1_12 ?_
    | with_reducible refine i_tg1_13 ?_
    | with_reducible refine i_tg1_14 ?_
    | with_reducible refine i_tg1_15 ?_
    | with_reducible refine i_tg1_16 ?_
    | with_reducible refine i_tg1_17 ?_
    | with_reducible refine i_tg1_18 ?_
    | with_reducible refine i_tg1_19 ?_
    | with_reducible refine i_tg1_20 ?_
    | with_reducible refine i_tg1_21 ?_
    | with_reducible refine i_tg1_22 ?_
    | with_reducible refine i_tg1_23 ?_)
  | with_reducible refine i_yes ?_
  | with_reducible refine i_if ?_
  | with_reducible refine i_tv ?_
  | with_reducible refine i_bl ?_
  | with_reducible refine i_blV ?_
  | ((with_reducible refine g_if ?_); first
    | with_reducible refine iteT ?_
    | with_reducible refine iteF ?_
    | ((with_reducible refine' i_ifdt ?cc ?_); (case cc => first | decide | omega | assumption | decide +kernel))
    | ((with_reducible refine' i_ifdf ?cc ?_); (case cc => first | decide | omega | assumption | decide +kernel))
    | ((with_reducible refine' i_ifnt ?cc ?_); (case cc => first | decide | omega | assumption | decide +kernel))
    | ((with_reducible refine' i_ifnf ?cc ?_); (case cc => first | decide | omega | assumption | decide +kernel))
    | ((with_reducible refine' i_ift ?cc ?_); (case cc => first | assumption | rfl))
    | ((with_reducible refine' i_iff ?cc ?_); (case cc => first | assumption | rfl)))
  | with_reducible refine i_eqT ?_
  | with_reducible refine i_neT ?_
  | with_reducible refine i_eqI ?_
  | with_reducible refine i_neI ?_
  | with_reducible refine i_eqB ?_
  | with_reducible refine i_neB ?_
  | with_reducible refine i_lt ?_
  | with_reducible refine i_le ?_
  | with_reducible refine i_gt ?_
  | with_reducible refine i_ge ?_
  | with_reducible refine i_add ?_
  | with_reducible refine i_sub ?_
  | with_reducible refine i_and ?_
  | with_reducible refine i_or ?_
  | with_reducible refine i_not ?_
  | with_reducible refine i_andV ?_
  | with_reducible refine i_orV ?_
  | with_reducible refine i_notV ?_
  | with_reducible refine i_ifE ?_
  | with_reducible refine i_isN ?_
  | with_reducible refine i_notN ?_
  | with_reducible refine i_un ?_
  | with_reducible refine i_int1 ?_
  | with_reducible refine i_tup ?_
  | with_reducible refine i_lst ?_
  | ((with_reducible refine' i_small ?ss ?_); (case ss => first | decide | (simp only [List.length_cons, List.length_nil, List.length_map, List.length_append]; omega)))
  | with_reducible refine i_cb ?_
  | with_reducible refine i_call0 ?_
  | with_reducible refine i_call ?_
  | with_reducible refine i_meth0 ?_
  | with_reducible refine i_make0 ?_
  | with_reducible refine i_fld ?_
  | ((with_reducible refine' i_fldO ?ll ?_); (case ll => repeat (first | exact lk_hd | exact lk_nil | (refine lk_tl (by decide +kernel) ?_))))
  | ((with_reducible refine' i_fldR ?ee ?ll ?_); (case ee => walk_at "hlk"); (case ll => repeat (first | exact lk_hd | exact lk_nil | (refine lk_tl (by decide +kernel) ?_))))
  | ((with_reducible refine' i_mO ?ll ?_); (case ll => repeat (first | exact lk_hd | exact lk_nil | (refine lk_tl (by decide +kernel) ?_))))
  | ((with_reducible refine' i_mR ?ee ?ll ?_); (case ee => walk_at "hlk"); (case ll => repeat (first | exact lk_hd | exact lk_nil | (refine lk_tl (by decide +kernel) ?_))))
  | ((with_reducible refine' i_ixT ?at_ ?_); (case at_ => first | exact rfl | exact L2.atI_nat (j := 0) rfl | exact L2.atI_nat (j := 1) rfl))
  | ((with_reducible refine' i_ixL ?at_ ?_); (case at_ => first | exact rfl | exact L2.atI_nat (j := 0) rfl | exact L2.atI_nat (j := 1) rfl))
  | ((with_reducible refine' i_ixR ?hh ?at_ ?_); (case hh => walk_at "hlk"); (case at_ => first | exact rfl | exact L2.atI_nat (j := 0) rfl | exact L2.atI_nat (j := 1) rfl))
  | with_reducible refine i_fldS ?_
  | with_reducible refine i_bm ?_
  | ((with_reducible refine' i_tyL ?hh ?_); (case hh => walk_at "hlk"))
  | ((with_reducible refine' i_l2 ?xx ?yy ?_); (case xx => exact rfl); (case yy => exact rfl))
  | with_reducible refine i_callK ?_
  | with_reducible refine i_makeK ?_
  | with_reducible refine i_chain ?_
  | with_reducible refine i_raise ?_
  | with_reducible refine i_atx ?_
  | with_reducible refine i_lenO ?_
  | with_reducible refine i_sub_ ?_
  | with_reducible refine i_expr ?_
  | with_reducible refine i_ret ?_
  | with_reducible refine i_next ?_
  | with_reducible refine i_lc ?_
  | with_reducible refine i_r1 ?_
  | with_reducible refine i_iL ?_
  | with_reducible refine i_iT ?_
  | with_reducible refine i_itsF ?_
  | with_reducible refine i_itsS ?_
  | with_reducible refine i_itsT ?_
  | ((with_reducible refine' i_itsR ?hh ?_); (case hh => walk_at "hlk"))
  | with_reducible refine i_lenF ?_
  | with_reducible refine i_lenT ?_
  | ((with_reducible refine' i_lenR ?hh ?_); (case hh => walk_at "hlk"))
  | with_reducible refine i_listF ?_
  | with_reducible refine i_listT ?_
  | ((with_reducible refine' i_listR ?hh ?_); (case hh => walk_at "hlk"))
  | with_reducible refine i_tupF ?_
  | ((with_reducible refine' i_lenOR ?hh ?_); (case hh => walk_at "hlk"))
  | ((with_reducible refine' i_tupR ?hh ?_); (case hh => walk_at "hlk"))
  | ((with_reducible refine g_isi ?_); first
    | with_reducible refine i_isi_non_bool ?_
    | with_reducible refine i_isi_non_int ?_
    | with_reducible refine i_isi_non_str ?_
    | with_reducible refine i_isi_non_list ?_
    | with_reducible refine i_isi_non_tuple ?_
    | with_reducible refine i_isi_bl_bool ?_
    | with_reducible refine i_isi_bl_int ?_
    | with_reducible refine i_isi_bl_str ?_
    | with_reducible refine i_isi_bl_list ?_
    | with_reducible refine i_isi_bl_tuple ?_
    | with_reducible refine i_isi_int_bool ?_
    | with_reducible refine i_isi_int_int ?_
    | with_reducible refine i_isi_int_str ?_
    | with_reducible refine i_isi_int_list ?_
    | with_reducible refine i_isi_int_tuple ?_
    | with_reducible refine i_isi_str_bool ?_
    | with_reducible refine i_isi_str_int ?_
    | with_reducible refine i_isi_str_str ?_
    | with_reducible refine i_isi_str_list ?_
    | with_reducible refine i_isi_str_tuple ?_
    | with_reducible refine i_isi_tup_bool ?_
    | with_reducible refine i_isi_tup_int ?_
    | with_reducible refine i_isi_tup_str ?_
    | with_reducible refine i_isi_tup_list ?_
    | with_reducible refine i_isi_tup_tuple ?_
    | with_reducible refine i_isi_lst_bool ?_
    | with_reducible refine i_isi_lst_int ?_
    | with_reducible refine i_isi_lst_str ?_
    | with_reducible refine i_isi_lst_list ?_
    | with_reducible refine i_isi_lst_tuple ?_)
  | with_reducible refine i_max ?_
  | with_reducible refine i_min ?_
  | ((with_reducible refine' i_wgtup ?nn ?_); (case nn => exact rfl))
  | ((with_reducible refine' i_rngB ?aa ?bb ?_); (case aa => first | decide | omega); (case bb => first | decide | omega))
  | with_reducible refine i_for ?_
  | with_reducible refine i_while ?_
  | with_reducible refine i_wgcons ?_
  | with_reducible refine i_wgnil ?_
  | with_reducible refine i_wslL ?_
  | with_reducible refine i_nopart ?_
  | with_reducible refine i_part ?_
  ))

/-! ### the draws -/
/-- the tray at t, its great cells at g; at most n draws were mixed -/
structure Tray (h : Hh) (t g : Addr) (n : Int) : Prop where
  ne : t ≠ g
  at_ : ∃ (gs : List Int) (a fold c : Int), h t = some (.lst [.ref g, .int a, .int fold, .int c]) ∧ h g = some (.lst (gs.map Val.int)) ∧ (∀ x ∈ gs, 0 ≤ x) ∧ gs.length ≤ 63 ∧ 0 ≤ a ∧ 0 ≤ fold ∧ fold < 2305843009213693951 ∧ 0 ≤ c ∧ c ≤ n
/-- nothing but the tray is changed -/
def Keep (t g : Addr) (h h' : Hh) : Prop := ∀ b, b ≠ t → b ≠ g → h' b = h b
theorem Keep.refl {t g : Addr} {h : Hh} : Keep t g h h := fun _ _ _ => rfl
theorem Keep.trans {t g : Addr} {h h1 h2 : Hh} (a : Keep t g h h1) (b : Keep t g h1 h2) : Keep t g h h2 := fun c x y => (b c x y).trans (a c x y)
theorem Tray.more {h : Hh} {t g : Addr} {n m : Int} (T : Tray h t g n) (l : n ≤ m) : Tray h t g m := by
  obtain ⟨ne, gs, a, fold, c, h1, h2, h3, h4, h5, h6, h7, h8, h9⟩ := T
  exact ⟨ne, gs, a, fold, c, h1, h2, h3, h4, h5, h6, h7, h8, by omega⟩
def fs_law_draw : FS where
  P := Addr × Addr × Int × Int
  pre := fun (t, g, n, m) vs h => vs = [.ref t, .int m] ∧ Tray h t g n ∧ n ≤ 1000000000000000 ∧ 0 < m ∧ m ≤ 1000000000000000000
  post := fun (t, g, n, m) h v h' => ∃ r : Int, v = .int r ∧ 0 ≤ r ∧ r < m ∧ Tray h' t g (n + 1) ∧ Keep t g h h'
theorem c_law_draw {t g : Addr} {n m : Int} {h : Hh} {E : XQ} {Q : KQ} (T : Tray h t g n) (hn : n ≤ 1000000000000000) (hm : 0 < m) (hm2 : m ≤ 1000000000000000000) (k : ∀ (r : Int) h', 0 ≤ r → r < m → Tray h' t g (n + 1) → Keep t g h h' → Q (.int r) h') : fs_law_draw.sp [.ref t, .int m] h E Q :=
  ⟨(t, g, n, m), ⟨rfl, T, hn, hm, hm2⟩, fun v h' ⟨r, e, a, b, c, d⟩ => by subst e; exact k r h' a b c d, fun _ _ _ z => z.elim⟩
def r_law_draw : WS :=
  wSeq (wWhile (wAnd (wTv (wOp wLt (wOp wIx (wVar 0) (wC (.int 1))) (wC (.int 2)))) (wTv (wOp wNeD (wOp wIx (wVar 0) (wC (.int 0))) (wLst (wNil)))))
  (wAsg (wBM "list" mPopAt (wOp wIx (wVar 0) (wC (.int 0))) (wCons (wC (.int 0)) (wNil))) (wgSub (wVar 0) (wC (.int 1)) wSetL (fun _ _ _ => False))))
  (wSeq (wIf (wTv (wOp wGe (wOp wIx (wVar 0) (wC (.int 1))) (wC (.int 2)))) (wSeq (wAsg (wOp wMod (wOp wIx (wVar 0) (wC (.int 1))) (wVar 1)) (wgName 2))
  (wSeq (wAsg (wOp wDivW (wOp wIx (wVar 0) (wC (.int 1))) (wVar 1)) (wgSub (wVar 0) (wC (.int 1)) wSetL (fun _ _ _ => False)))
  (wRet (wVar 2)))) (wNext))
  (wSeq (wAsg (wOp wAdd (wOp wIx (wVar 0) (wC (.int 3))) (wC (.int 1))) (wgSub (wVar 0) (wC (.int 3)) wSetL (fun _ _ _ => False)))
  (wSeq (wAsg (wOp wMod (wOp wAdd (wOp wMul (wOp wAdd (wOp wIx (wVar 0) (wC (.int 2))) (wC (.int 5))) (wOp wPow (wOp wAdd (wOp wIx (wVar 0) (wC (.int 3))) (wC (.int 2))) (wC (.int 3)))) (wOp wMul (wC (.int 1000003)) (wOp wIx (wVar 0) (wC (.int 3))))) (wOp wSub (wOp wPow (wC (.int 2)) (wC (.int 61))) (wC (.int 1)))) (wgName 3))
  (wRet (wOp wMod (wOp wDivW (wOp wMod (wOp wPow (wVar 3) (wC (.int 5))) (wOp wAdd (wOp wPow (wC (.int 10)) (wC (.int 18))) (wC (.int 9)))) (wC (.int 64))) (wVar 1))))))

theorem shaped_ints (ns : List Int) : SeqAt.shaped (.list (ns.map PyData.int)) = true := by
  unfold SeqAt.shaped
  have e : ∀ ns : List Int, PyData.depthAll (ns.map PyData.int) ≤ 1 := fun ns => by
    induction ns with
    | nil => simp [PyData.depthAll]
    | cons n ns ih => simp [PyData.depthAll, PyData.depth]; omega
  have := e ns
  simp [PyData.canLay0, canLay_ints, PyData.depth]
  omega
theorem pow_pos_small {i : Int} (n : Nat) (h : 0 ≤ i) : 0 ≤ i ^ n := by
  induction n with
  | zero => simp
  | succ n ih => rw [Int.pow_succ]; exact Int.mul_nonneg ih h
theorem rd_law_draw {K : Fr} {p vs h Q} {X : XQ} (gd : Good K Q) (q : fs_law_draw.pre p vs h) (hp : ∀ v h', fs_law_draw.post p h v h' → Q v h') :
    r_law_draw (fun _ h' => Q .non h') Q (fun _ _ => False) (fun _ _ => False) (fun C v _ h' => X C v h') (startV ["tray", "many", "found", "mixed"] vs) h := by
  obtain ⟨t, g, n, m⟩ := p
  obtain ⟨rfl, T, hn, hm, hm2⟩ := q
  show r_law_draw _ _ _ _ _ [some (.ref t), some (.int m), none, none] h
  unfold r_law_draw
  obtain ⟨ne, gs, a, fold, c, h1, h2, h3, h4, h5, h6, h7, h8, h9⟩ := T
  have hp' : ∀ (r : Int) h', 0 ≤ r → r < m → Tray h' t g (n + 1) → Keep t g h h' → Q (.int r) h' := fun r h' a b c d => hp _ _ ⟨r, rfl, a, b, c, d⟩
  clear hp
  walk_at "zgo"
  refine while_inv (fun k ρ h' => ρ = [some (.ref t), some (.int m), none, none] ∧ Keep t g h h' ∧ ∃ (gs : List Int) (a : Int), k = gs.length ∧ h' t = some (.lst [.ref g, .int a, .int fold, .int c]) ∧ h' g = some (.lst (gs.map Val.int)) ∧ (∀ x ∈ gs, 0 ≤ x) ∧ gs.length ≤ 63 ∧ 0 ≤ a) _ ⟨rfl, Keep.refl, gs, a, rfl, h1, h2, h3, h4, h5⟩ ?_
  clear h1 h2 h3 h4 h5
  rintro k ρ h' ⟨rfl, kp, gs, a, rfl, h1, h2, h3, h4, h5⟩
  walk_at "zgo"
  refine i_ifd (fun ha => ?_) (fun ha => ?_)
  · walk_at "zgo"
    refine i_newF ⟨.list (gs.map .int), .list [], .ref h2 (dvs_ints gs), .lst .nil, shaped_ints gs, shaped_ints [], ?_⟩
    cases gs with
    | nil =>
      refine i_blV ?_
      refine iteF ?_
      walk_at "zgo"
      refine i_setL h1 rfl ?_
      have h1' : hup h' t (Ob.lst [Val.ref g, Val.int a, Val.int fold, Val.int (c + 1)]) t = some (.lst [Val.ref g, Val.int a, Val.int fold, Val.int (c + 1)]) := hup_same
      walk_at "zgo"
      refine i_pow (by refine ⟨by omega, by omega, ?_⟩; omega) ?_
      refine i_mul (.inl ⟨by omega, by omega⟩) ?_
      walk_at "zgo"
      refine i_mul (.inl ⟨by omega, by omega⟩) ?_
      walk_at "zgo"
      refine i_pow (by refine ⟨by omega, by omega, ?_⟩; omega) ?_
      walk_at "zgo"
      refine i_mod (by decide) ?_
      walk_at "zgo"
      have b0 : 0 ≤ ((fold + 5) * (c + 1 + 2) ^ (3 : Int).toNat + 1000003 * (c + 1)) % (2 ^ (61 : Int).toNat - 1) := Int.emod_nonneg _ (by decide)
      have b1 : ((fold + 5) * (c + 1 + 2) ^ (3 : Int).toNat + 1000003 * (c + 1)) % (2 ^ (61 : Int).toNat - 1) < 2 ^ (61 : Int).toNat - 1 := Int.emod_lt_of_pos _ (by decide)
      generalize ((fold + 5) * (c + 1 + 2) ^ (3 : Int).toNat + 1000003 * (c + 1)) % (2 ^ (61 : Int).toNat - 1) = mx at b0 b1 ⊢
      have e61 : (2 : Int) ^ (61 : Int).toNat - 1 = 2305843009213693951 := by decide
      rw [e61] at b1
      refine i_pow (by refine ⟨by omega, by omega, ?_⟩; omega) ?_
      walk_at "zgo"
      refine i_pow (by refine ⟨by omega, by omega, ?_⟩; omega) ?_
      walk_at "zgo"
      refine i_mod (by decide) ?_
      walk_at "zgo"
      refine i_divW ⟨by decide, by decide⟩ ?_
      walk_at "zgo"
      refine i_mod hm ?_
      refine hp' _ _ (Int.emod_nonneg _ (by omega)) (Int.emod_lt_of_pos _ hm) ⟨ne, [], a, fold, c + 1, hup_same, by rw [hup_ne ne.symm]; exact h2, h3, h4, h5, h6, h7, by omega, by omega⟩ fun b b1 b2 => by rw [hup_ne b1]; exact kp b b1 b2
    | cons x gs =>
      refine i_blV ?_
      refine iteT ?_
      walk_at "zgo"
      refine ⟨g, _, 0, 0, .int x, rfl, rfl, h2, by decide, by decide, ?_, rfl, ?_⟩
      · simp [seqIndex?]
      · have h1' : hup h' g (.lst (List.eraseIdx (List.map Val.int (x :: gs)) 0)) t = some (.lst [.ref g, .int a, .int fold, .int c]) := by rw [hup_ne ne]; exact h1
        walk_at "zgo"
        refine i_setL h1' rfl ?_
        refine ⟨gs.length, by simp, rfl, fun b b1 b2 => by rw [hup_ne b1, hup_ne b2]; exact kp b b1 b2, gs, x, rfl, hup_same, by rw [hup_ne ne.symm, hup_same]; rfl, fun y hy => h3 y (by simp [hy]), by simp at h4; omega, h3 x (by simp)⟩
  · walk_at "zgo"
    refine i_mod hm ?_
    walk_at "zgo"
    refine i_divW (wide_div hm (b := 60) (by omega) (by decide) (by decide)) ?_
    walk_at "zgo"
    refine i_setL h1 rfl ?_
    walk_at "zgo"
    refine hp' _ _ (Int.emod_nonneg _ (by omega)) (Int.emod_lt_of_pos _ hm) ⟨ne, gs, a / m, fold, c, hup_same, by rw [hup_ne ne.symm]; exact h2, h3, h4, Int.ediv_nonneg h5 (by omega), h6, h7, by omega, by omega⟩ fun b b1 b2 => by rw [hup_ne b1]; exact kp b b1 b2
def cost_any : Int := 6
def fs_law_tray : FS where
  P := List Int
  pre := fun ns vs h => vs = [.scr (ns.map Val.int)] ∧ ns.length ≤ 63
  post := fun _ h v h' => ∃ t g, v = .ref t ∧ h t = none ∧ h g = none ∧ Tray h' t g 0 ∧ Keep t g h h'
theorem c_law_tray {ns : List Int} {h : Hh} {E : XQ} {Q : KQ} (hl : ns.length ≤ 63) (k : ∀ t g h', h t = none → h g = none → Tray h' t g 0 → Keep t g h h' → Q (.ref t) h') : fs_law_tray.sp [.scr (ns.map Val.int)] h E Q :=
  ⟨ns, ⟨rfl, hl⟩, fun v h' ⟨t, g, e, a, b, c, d⟩ => by subst e; exact k t g h' a b c d, fun _ _ _ z => z.elim⟩
def fs_law_any : FS where
  P := Addr × Addr × Int
  pre := fun (t, g, n) vs h => vs = [.ref t] ∧ Tray h t g n ∧ n ≤ 100000000000000
  post := fun (t, g, n) h v h' => ∃ r : Int, v = .int r ∧ -(10 ^ 60) < r ∧ r < 10 ^ 60 ∧ Tray h' t g (n + 6) ∧ Keep t g h h'
theorem c_law_any {t g : Addr} {n : Int} {h : Hh} {E : XQ} {Q : KQ} (T : Tray h t g n) (hn : n ≤ 100000000000000) (k : ∀ (r : Int) h', -(10 ^ 60) < r → r < 10 ^ 60 → Tray h' t g (n + 6) → Keep t g h h' → Q (.int r) h') : fs_law_any.sp [.ref t] h E Q :=
  ⟨(t, g, n), ⟨rfl, T, hn⟩, fun v h' ⟨r, e, a, b, c, d⟩ => by subst e; exact k r h' a b c d, fun _ _ _ z => z.elim⟩
def r_law_tray : WS :=
  wSeq (wAsg (wC (.int 314159265358979)) (wgName 1))
  (wSeq (wAsg (wLst (wNil)) (wgName 2))
  (wSeq (wFor (wiL (wVar 0)) (wgName 3)
  (wSeq (wAsg (wOp wMod (wOp wAdd (wOp wMul (wVar 1) (wC (.int 1000003))) (wVar 3)) (wOp wSub (wOp wPow (wC (.int 2)) (wC (.int 61))) (wC (.int 1)))) (wgName 1))
  (wSeq (wAsg (wCB cMax2 (wCons (wVar 3) (wCons (wOp wSub (wC (.int 0)) (wVar 3)) (wNil)))) (wgName 4))
  (wIf (wTv (wOp wGe (wVar 4) (wOp wPow (wC (.int 10)) (wC (.int 18))))) (wExpr (wBM "list" mAppend (wVar 2) (wCons (wOp wSub (wVar 4) (wOp wPow (wC (.int 10)) (wC (.int 18)))) (wNil)))) (wNext)))))
  (wRet (wLst (wCons (wVar 2) (wCons (wC (.int 0)) (wCons (wVar 1) (wCons (wC (.int 0)) (wNil)))))))))

def r_law_any : WS :=
  wSeq (wAsg (wCall fs_law_draw [] (wCons (wVar 0) (wCons (wC (.int 4)) (wNil)))) (wgName 1))
  (wSeq (wIf (wTv (wOp wLt (wVar 1) (wC (.int 2)))) (wRet (wOp wSub (wCall fs_law_draw [] (wCons (wVar 0) (wCons (wC (.int 17)) (wNil)))) (wC (.int 3)))) (wNext))
  (wSeq (wAsg (wCall fs_law_draw [] (wCons (wVar 0) (wCons (wOp wPow (wC (.int 10)) (wC (.int 15))) (wNil)))) (wgName 2))
  (wSeq (wFor (wiR1 (wC (.int 3))) (wgName 3)
  (wAsg (wOp wAdd (wOp wMul (wVar 2) (wOp wPow (wC (.int 10)) (wC (.int 15)))) (wCall fs_law_draw [] (wCons (wVar 0) (wCons (wOp wPow (wC (.int 10)) (wC (.int 15))) (wNil))))) (wgName 2)))
  (wRet (wOp wMul (wVar 2) (wOp wSub (wC (.int 5)) (wOp wMul (wC (.int 2)) (wVar 1))))))))

theorem rd_law_tray {K : Fr} {p vs h Q} {X : XQ} (gd : Good K Q) (q : fs_law_tray.pre p vs h) (hp : ∀ v h', fs_law_tray.post p h v h' → Q v h') :
    r_law_tray (fun _ h' => Q .non h') Q (fun _ _ => False) (fun _ _ => False) (fun C v _ h' => X C v h') (startV ["script", "fold", "great", "cell", "size"] vs) h := by
  obtain ⟨rfl, hl⟩ := q
  show r_law_tray _ _ _ _ _ [some (.scr (p.map Val.int)), none, none, none, none] h
  unfold r_law_tray
  walk_at "zgo"
  refine i_newO fun g hg => ?_
  walk_at "zgo"
  refine for_inv (fun i ρ h' => ∃ (fold : Int) (gs : List Int) (x y : Option Val), ρ = [some (.scr (p.map Val.int)), some (.int fold), some (.ref g), x, y] ∧ 0 ≤ fold ∧ fold < 2305843009213693951 ∧ h' g = some (.lst (gs.map Val.int)) ∧ (∀ x ∈ gs, 0 ≤ x) ∧ gs.length ≤ i ∧ i ≤ p.length ∧ ∀ b, b ≠ g → h' b = h b)
    ⟨_, [], none, none, rfl, by decide, by decide, hup_same, by simp, by simp, by simp, fun b hb => hup_ne hb⟩ ?_
  rintro i ρ h' ⟨fold, gs, x, y, rfl, f0, f1, hg1, hg2, hg3, hi, kp⟩
  refine ⟨trivial, fun hi2 => ?_, fun z hz => ?_⟩
  · walk_at "zgo"
    refine i_newO fun t ht => ?_
    have ne : t ≠ g := fun e => by subst e; rw [hg1] at ht; cases ht
    have ht0 : h t = none := by rw [← kp t ne]; exact ht
    refine hp _ _ ⟨t, g, rfl, ht0, hg, ⟨ne, gs, 0, fold, 0, hup_same, by rw [hup_ne ne.symm]; exact hg1, hg2, Nat.le_trans hg3 (Nat.le_trans hi hl), by decide, f0, f1, by decide, by decide⟩, fun b b1 b2 => by rw [hup_ne b1]; exact kp b b2⟩
  · obtain ⟨c, hc, rfl⟩ := map_get hz
    have hil : i < p.length := (List.getElem?_eq_some_iff.mp hc).1
    walk_at "zgo"
    refine i_mul (.inl ⟨by omega, by omega⟩) ?_
    walk_at "zgo"
    refine i_pow (by refine ⟨by omega, by omega, ?_⟩; omega) ?_
    walk_at "zgo"
    refine i_mod (by decide) ?_
    walk_at "zgo"
    refine i_pow (by refine ⟨by omega, by omega, ?_⟩; omega) ?_
    walk_at "zgo"
    have m0 : 0 ≤ (fold * 1000003 + c) % (2 ^ (61 : Int).toNat - 1) := Int.emod_nonneg _ (by decide)
    have m1 : (fold * 1000003 + c) % (2 ^ (61 : Int).toNat - 1) < 2305843009213693951 := Int.emod_lt_of_pos _ (by decide)
    refine i_ifd (fun hs => ?_) (fun hs => ?_)
    · walk_at "zgo"
      refine i_pow (by refine ⟨by omega, by omega, ?_⟩; omega) ?_
      walk_at "zgo"
      refine i_append hg1 (by simp; omega) ?_
      refine ⟨_, gs ++ [(if 0 - c > c then 0 - c else c) - 10 ^ (18 : Int).toNat], _, _, rfl, m0, m1, by rw [hup_same]; simp, ?_, ?_, hil, fun b b1 => by rw [hup_ne b1]; exact kp b b1⟩
      · intro x hx
        rcases List.mem_append.mp hx with hx | hx
        · exact hg2 x hx
        · simp only [List.mem_singleton] at hx
          subst hx
          omega
      · simp; omega
    · walk_at "zgo"
      exact ⟨_, gs, _, _, rfl, m0, m1, hg1, hg2, by omega, hil, kp⟩
theorem rd_law_any {K : Fr} {p vs h Q} {X : XQ} (gd : Good K Q) (q : fs_law_any.pre p vs h) (hp : ∀ v h', fs_law_any.post p h v h' → Q v h') :
    r_law_any (fun _ h' => Q .non h') Q (fun _ _ => False) (fun _ _ => False) (fun C v _ h' => X C v h') (startV ["tray", "kind", "found", "k"] vs) h := by
  obtain ⟨t, g, n⟩ := p
  obtain ⟨rfl, T, hn⟩ := q
  show r_law_any _ _ _ _ _ [some (.ref t), none, none, none] h
  unfold r_law_any
  walk_at "zgo"
  refine c_law_draw T (by omega) (by decide) (by decide) fun kind h1 k0 k1 T1 kp1 => ?_
  walk_at "zgo"
  refine i_ifd (fun hk => ?_) (fun hk => ?_)
  · walk_at "zgo"
    refine c_law_draw T1 (by omega) (by decide) (by decide) fun r h2 r0 r1 T2 kp2 => ?_
    walk_at "zgo"
    exact hp _ _ ⟨r - 3, rfl, by omega, by omega, T2.more (by omega), kp1.trans kp2⟩
  · walk_at "zgo"
    refine i_pow (by refine ⟨by omega, by omega, ?_⟩; omega) ?_
    refine c_law_draw T1 (by omega) (by decide) (by decide) fun f h2 r0 r1 T2 kp2 => ?_
    have e15 : (10 : Int) ^ (15 : Int).toNat = 1000000000000000 := by decide
    rw [e15] at r1
    walk_at "zgo"
    refine for_inv (fun i ρ h' => i ≤ 3 ∧ ∃ (f : Int) (x : Option Val), ρ = [some (.ref t), some (.int kind), some (.int f), x] ∧ 0 ≤ f ∧ f < (10 ^ 15) ^ (i + 1) ∧ Tray h' t g (n + 2 + i) ∧ Keep t g h h') ⟨by omega, f, none, rfl, r0, by omega, T2.more (by omega), kp1.trans kp2⟩ ?_
    rintro i ρ h3 ⟨hi, f, x, rfl, f0, f1, T3, kp3⟩
    refine ⟨trivial, fun hi2 => ?_, fun z hz => ?_⟩
    · rw [rng_len] at hi2
      have hi3 : i = 3 := by simp at hi2; omega
      subst hi3
      walk_at "zgo"
      refine i_mul (.inl ⟨by omega, by omega⟩) ?_
      walk_at "zgo"
      refine i_mul (.inr ⟨by omega, by omega⟩) ?_
      have kk : kind = 2 ∨ kind = 3 := by omega
      refine hp _ _ ⟨_, rfl, ?_, ?_, T3.more (by omega), kp3⟩
      · rcases kk with rfl | rfl <;> omega
      · rcases kk with rfl | rfl <;> omega
    · obtain ⟨hi3, rfl⟩ := rng_get hz
      have hi4 : i < 3 := by simpa using hi3
      walk_at "zgo"
      refine i_pow (by refine ⟨by omega, by omega, ?_⟩; omega) ?_
      refine i_mul (.inr ⟨by decide, by decide⟩) ?_
      walk_at "zgo"
      refine i_pow (by refine ⟨by omega, by omega, ?_⟩; omega) ?_
      refine c_law_draw T3 (by omega) (by decide) (by decide) fun r h4 r0 r1 T4 kp4 => ?_
      walk_at "zgo"
      have e15 : (10 : Int) ^ (15 : Int).toNat = 1000000000000000 := by decide
      refine ⟨by omega, _, _, rfl, ?_, ?_, T4.more (by omega), kp3.trans kp4⟩
      · rw [e15] at r1 ⊢
        omega
      · rw [e15] at r1 ⊢
        rw [Int.pow_succ]
        have : f ≤ (10 ^ 15) ^ (i + 1) - 1 := by omega
        have := Int.mul_le_mul_of_nonneg_right this (show (0 : Int) ≤ 10 ^ 15 by decide)
        omega
/-! LC2 -/


/-! ### data of worlds -/
inductive RefD where
  | thing (h n : Int) | made (h a r : Int)
  deriving DecidableEq
def RefD.v : RefD → Val
  | .thing h n => .tup [.str "thing", .int h, .int n]
  | .made h a r => .tup [.str "made", .int h, .int a, .int r]
inductive Thing where
  | box (w : Int) | shelf (rs : List RefD) | relay (r : RefD) | maker | stone
  deriving DecidableEq
def Thing.v : Thing → Val
  | .box w => .tup [.str "box", .int w]
  | .shelf rs => .tup [.str "shelf", .tup (rs.map RefD.v)]
  | .relay r => .tup [.str "relay", r.v]
  | .maker => .tup [.str "maker"]
  | .stone => .tup [.str "stone"]
abbrev Rooms := List (List Thing)
def houseV (hs : List Thing) : Val := .lst (hs.map Thing.v)
abbrev roomsV (ws : Rooms) : Val := .lst (ws.map houseV)
/-- a ref names a thing of houses of these sizes -/
def In (ns : List Nat) : RefD → Prop
  | .thing h n => ∃ k : Nat, 0 ≤ h ∧ ns[h.toNat]? = some k ∧ 0 ≤ n ∧ n < (k : Int)
  | .made _ _ _ => False
def Thing.Ok (ns : List Nat) : Thing → Prop
  | .box w => -(10 ^ 60) < w ∧ w < 10 ^ 60
  | .shelf rs => rs.length ≤ 12 ∧ ∀ r ∈ rs, In ns r
  | .relay r => In ns r
  | .maker => True
  | .stone => True
structure WorldOk (ws : Rooms) : Prop where
  pos : 1 ≤ ws.length
  most : ws.length ≤ 8
  house : ∀ hs ∈ ws, hs.length ≤ 12
  ok : ∀ hs ∈ ws, ∀ th ∈ hs, th.Ok (ws.map List.length)
def natsV (ns : List Nat) : List Val := ns.map fun (n : Nat) => Val.int (n : Int)
theorem natsV_ints (ns : List Nat) : natsV ns = (ns.map fun (n : Nat) => (n : Int)).map Val.int := by simp [natsV]
theorem sum_cast (ns : List Nat) : (ns.map fun (n : Nat) => (n : Int)).sum = (ns.sum : Int) := by
  induction ns with
  | nil => rfl
  | cons n ns ih => simp only [List.map_cons, List.sum_cons, ih]; omega
def fs_law_sizes : FS where
  P := Addr × Addr × Int
  pre := fun (t, g, n) vs h => vs = [.ref t] ∧ Tray h t g n ∧ n ≤ 100000000000000
  post := fun (t, g, n) h v h' => ∃ ns : List Nat, v = .lst (natsV ns) ∧ 1 ≤ ns.length ∧ ns.length ≤ 8 ∧ (∀ k ∈ ns, k ≤ 12) ∧ Tray h' t g (n + 10) ∧ Keep t g h h'
theorem c_law_sizes {t g : Addr} {n : Int} {h : Hh} {E : XQ} {Q : KQ} (T : Tray h t g n) (hn : n ≤ 100000000000000) (k : ∀ (ns : List Nat) h', 1 ≤ ns.length → ns.length ≤ 8 → (∀ k ∈ ns, k ≤ 12) → Tray h' t g (n + 10) → Keep t g h h' → Q (.lst (natsV ns)) h') : fs_law_sizes.sp [.ref t] h E Q :=
  ⟨(t, g, n), ⟨rfl, T, hn⟩, fun v h' ⟨ns, e, a, b, b2, c, d⟩ => by subst e; exact k ns h' a b b2 c d, fun _ _ _ z => z.elim⟩
def fs_law_ref : FS where
  P := Addr × Addr × Int × List Nat
  pre := fun (t, g, n, ns) vs h => vs = [.ref t, .lst (natsV ns)] ∧ Tray h t g n ∧ n ≤ 100000000000000 ∧ 0 < ns.sum ∧ ns.sum ≤ 1000
  post := fun (t, g, n, ns) h v h' => ∃ r : RefD, v = r.v ∧ In ns r ∧ Tray h' t g (n + 1) ∧ Keep t g h h'
theorem c_law_ref {t g : Addr} {n : Int} {ns : List Nat} {h : Hh} {E : XQ} {Q : KQ} (T : Tray h t g n) (hn : n ≤ 100000000000000) (hs : 0 < ns.sum) (hs2 : ns.sum ≤ 1000) (k : ∀ (r : RefD) h', In ns r → Tray h' t g (n + 1) → Keep t g h h' → Q r.v h') : fs_law_ref.sp [.ref t, .lst (natsV ns)] h E Q :=
  ⟨(t, g, n, ns), ⟨rfl, T, hn, hs, hs2⟩, fun v h' ⟨r, e, a, b, c⟩ => by subst e; exact k r h' a b c, fun _ _ _ z => z.elim⟩
def fs_law_thing : FS where
  P := Addr × Addr × Int × List Nat
  pre := fun (t, g, n, ns) vs h => vs = [.ref t, .lst (natsV ns)] ∧ Tray h t g n ∧ n ≤ 10000000000000 ∧ 0 < ns.sum ∧ ns.sum ≤ 1000
  post := fun (t, g, n, ns) h v h' => ∃ th : Thing, v = th.v ∧ th.Ok ns ∧ Tray h' t g (n + 20) ∧ Keep t g h h'
theorem c_law_thing {t g : Addr} {n : Int} {ns : List Nat} {h : Hh} {E : XQ} {Q : KQ} (T : Tray h t g n) (hn : n ≤ 10000000000000) (hs : 0 < ns.sum) (hs2 : ns.sum ≤ 1000) (k : ∀ (th : Thing) h', th.Ok ns → Tray h' t g (n + 20) → Keep t g h h' → Q th.v h') : fs_law_thing.sp [.ref t, .lst (natsV ns)] h E Q :=
  ⟨(t, g, n, ns), ⟨rfl, T, hn, hs, hs2⟩, fun v h' ⟨r, e, a, b, c⟩ => by subst e; exact k r h' a b c, fun _ _ _ z => z.elim⟩
def fs_law_world : FS where
  P := Addr × Addr × Int
  pre := fun (t, g, n) vs h => vs = [.ref t] ∧ Tray h t g n ∧ n ≤ 1000000000000
  post := fun (t, g, n) h v h' => ∃ ws : Rooms, v = roomsV ws ∧ WorldOk ws ∧ Tray h' t g (n + 2500) ∧ Keep t g h h'
theorem c_law_world {t g : Addr} {n : Int} {h : Hh} {E : XQ} {Q : KQ} (T : Tray h t g n) (hn : n ≤ 1000000000000) (k : ∀ (ws : Rooms) h', WorldOk ws → Tray h' t g (n + 2500) → Keep t g h h' → Q (roomsV ws) h') : fs_law_world.sp [.ref t] h E Q :=
  ⟨(t, g, n), ⟨rfl, T, hn⟩, fun v h' ⟨r, e, a, b, c⟩ => by subst e; exact k r h' a b c, fun _ _ _ z => z.elim⟩
def r_law_sizes : WS :=
  wSeq (wAsg (wCall fs_law_draw [] (wCons (wVar 0) (wCons (wC (.int 8)) (wNil)))) (wgName 1))
  (wSeq (wAsg (wLst (wCons (wC (.int 4)) (wCons (wC (.int 5)) (wNil)))) (wgName 2))
  (wSeq (wIf (wTv (wOp wEqS (wVar 1) (wC (.int 7)))) (wAsg (wLst (wCons (wC (.int 8)) (wCons (wC (.int 13)) (wNil)))) (wgName 2)) (wNext))
  (wSeq (wAsg (wOp wAdd (wC (.int 1)) (wCall fs_law_draw [] (wCons (wVar 0) (wCons (wOp wIx (wVar 2) (wC (.int 0))) (wNil))))) (wgName 3))
  (wRet (wLc (wiR1 (wVar 3)) (tg1 4) wYes (wCall fs_law_draw [] (wCons (wVar 0) (wCons (wOp wIx (wVar 2) (wC (.int 1))) (wNil)))) [4])))))

def r_law_ref : WS :=
  wSeq (wAsg (wCall fs_law_draw [] (wCons (wVar 0) (wCons (wCB cSum (wCons (wVar 1) (wNil))) (wNil)))) (wgName 2))
  (wSeq (wAsg (wC (.int 0)) (wgName 3))
  (wSeq (wFor (wiL (wVar 1)) (wgName 4)
  (wSeq (wIf (wTv (wOp wLt (wVar 2) (wVar 4))) (wRet (wTup (wCons (wC (.str "thing")) (wCons (wVar 3) (wCons (wVar 2) (wNil)))))) (wNext))
  (wSeq (wAsg (wOp wSub (wVar 2) (wVar 4)) (wgName 2))
  (wAsg (wOp wAdd (wVar 3) (wC (.int 1))) (wgName 3)))))
  (wRet (wC .non))))

def r_law_thing : WS :=
  wSeq (wAsg (wCall fs_law_draw [] (wCons (wVar 0) (wCons (wC (.int 9)) (wNil)))) (wgName 2))
  (wSeq (wIf (wTv (wOp wLt (wVar 2) (wC (.int 3)))) (wRet (wTup (wCons (wC (.str "box")) (wCons (wCall fs_law_any [] (wCons (wVar 0) (wNil))) (wNil))))) (wNext))
  (wSeq (wIf (wTv (wOp wLt (wVar 2) (wC (.int 5)))) (wSeq (wAsg (wCall fs_law_draw [] (wCons (wVar 0) (wCons (wOp wIx (wLst (wCons (wC (.int 5)) (wCons (wC (.int 13)) (wNil)))) (wOp wDivW (wCall fs_law_draw [] (wCons (wVar 0) (wCons (wC (.int 8)) (wNil)))) (wC (.int 7)))) (wNil)))) (wgName 3))
  (wRet (wTup (wCons (wC (.str "shelf")) (wCons (wCB cTuple (wCons (wLc (wiR1 (wVar 3)) (tg1 4) wYes (wCall fs_law_ref [] (wCons (wVar 0) (wCons (wVar 1) (wNil)))) [4]) (wNil))) (wNil)))))) (wNext))
  (wSeq (wIf (wTv (wOp wLt (wVar 2) (wC (.int 7)))) (wRet (wTup (wCons (wC (.str "relay")) (wCons (wCall fs_law_ref [] (wCons (wVar 0) (wCons (wVar 1) (wNil)))) (wNil))))) (wNext))
  (wRet (wOp wIx (wLst (wCons (wTup (wCons (wC (.str "maker")) (wNil))) (wCons (wTup (wCons (wC (.str "stone")) (wNil))) (wNil)))) (wOp wSub (wVar 2) (wC (.int 7))))))))

def r_law_world : WS :=
  wSeq (wAsg (wCall fs_law_sizes [] (wCons (wVar 0) (wNil))) (wgName 1))
  (wSeq (wAsg (wLst (wNil)) (wgName 2))
  (wSeq (wFor (wiL (wVar 1)) (wgName 3)
  (wExpr (wBM "list" mAppend (wVar 2) (wCons (wLc (wiR1 (wVar 3)) (tg1 4) wYes (wCall fs_law_thing [] (wCons (wVar 0) (wCons (wVar 1) (wNil)))) [4]) (wNil)))))
  (wRet (wVar 2))))

theorem rd_law_sizes {K : Fr} {p vs h Q} {X : XQ} (gd : Good K Q) (q : fs_law_sizes.pre p vs h) (hp : ∀ v h', fs_law_sizes.post p h v h' → Q v h') :
    r_law_sizes (fun _ h' => Q .non h') Q (fun _ _ => False) (fun _ _ => False) (fun C v _ h' => X C v h') (startV ["tray", "wide", "bounds", "many", "k"] vs) h := by
  obtain ⟨t, g, n⟩ := p
  obtain ⟨rfl, T, hn⟩ := q
  show r_law_sizes _ _ _ _ _ [some (.ref t), none, none, none, none] h
  unfold r_law_sizes
  walk_at "zgo"
  refine c_law_draw T (by omega) (by decide) (by decide) fun wide h1 k0 k1 T1 kp1 => ?_
  walk_at "zgo"
  refine i_newF ?_
  walk_at "zgo"
  have rest : ∀ b0 b1 : Int, 0 < b0 → b0 ≤ 8 → 0 < b1 → b1 ≤ 13 → 
      wSeq (wAsg (wOp wAdd (wC (.int 1)) (wCall fs_law_draw [] (wCons (wVar 0) (wCons (wOp wIx (wVar 2) (wC (.int 0))) (wNil))))) (wgName 3))
        (wRet (wLc (wiR1 (wVar 3)) (tg1 4) wYes (wCall fs_law_draw [] (wCons (wVar 0) (wCons (wOp wIx (wVar 2) (wC (.int 1))) (wNil)))) [4]))
        (fun _ h' => Q .non h') Q (fun _ _ => False) (fun _ _ => False) (fun C v _ h' => X C v h') [some (.ref t), some (.int wide), some (.lst [.int b0, .int b1]), none, none] h1 := fun b0 b1 p0 p1 p2 p3 => by
    walk_at "zgo"
    refine c_law_draw T1 (by omega) p0 (by omega) fun m h2 m0 m1 T2 kp2 => ?_
    walk_at "zgo"
    refine lc_inv (fun i acc h' => i ≤ (1 + m).toNat ∧ (∃ ns : List Nat, acc = natsV ns ∧ ns.length = i ∧ ∀ k ∈ ns, k ≤ 12) ∧ Tray h' t g (n + 2 + i) ∧ Keep t g h h') ⟨Nat.zero_le _, ⟨[], rfl, rfl, by simp⟩, T2.more (by omega), kp1.trans kp2⟩ ?_
    rintro i acc h3 ⟨hi, ⟨ns, rfl, hl, hb⟩, T3, kp3⟩
    refine ⟨trivial, fun hl2 => ?_, fun x hx => ?_⟩
    · rw [rng_len] at hl2
      exact i_newF (hp _ _ ⟨ns, rfl, by omega, by omega, hb, T3.more (by omega), kp3⟩)
    · obtain ⟨hi3, rfl⟩ := rng_get hx
      walk_at "zgo"
      refine c_law_draw T3 (by omega) p2 (by omega) fun r h4 r0 r1 T4 kp4 => ?_
      refine ⟨by simp [natsV]; omega, by omega, ⟨ns ++ [r.toNat], by simp [natsV, Int.toNat_of_nonneg r0], by simp [hl], fun k hk => ?_⟩, T4.more (by omega), kp3.trans kp4⟩
      rcases List.mem_append.mp hk with hk | hk
      · exact hb k hk
      · simp at hk; omega
  refine i_ifd (fun e => ?_) (fun e => ?_)
  · walk_at "zgo"
    refine i_newF ?_
    refine i_name2 ?_
    exact rest 8 13 (by decide) (by decide) (by decide) (by decide)
  · refine i_next ?_
    exact rest 4 5 (by decide) (by decide) (by decide) (by decide)
theorem sum_drop {ns : List Nat} {i k : Nat} (h : ns[i]? = some k) : (ns.drop i).sum = k + (ns.drop (i + 1)).sum := by
  obtain ⟨hi, rfl⟩ := List.getElem?_eq_some_iff.mp h
  rw [List.drop_eq_getElem_cons hi, List.sum_cons]
theorem rd_law_ref {K : Fr} {p vs h Q} {X : XQ} (gd : Good K Q) (q : fs_law_ref.pre p vs h) (hp : ∀ v h', fs_law_ref.post p h v h' → Q v h') :
    r_law_ref (fun _ h' => Q .non h') Q (fun _ _ => False) (fun _ _ => False) (fun C v _ h' => X C v h') (startV ["tray", "sizes", "at", "house", "size"] vs) h := by
  obtain ⟨t, g, n, ns⟩ := p
  obtain ⟨rfl, T, hn, hs, hs2⟩ := q
  show r_law_ref _ _ _ _ _ [some (.ref t), some (.lst (natsV ns)), none, none, none] h
  unfold r_law_ref
  walk_at "zgo"
  rw [natsV_ints]
  refine ⟨_, _, rfl, .lst _, ?_⟩
  rw [sum_cast]
  refine c_law_draw T (by omega) (by omega) (by omega) fun at0 h1 a0 a1 T1 kp1 => ?_
  walk_at "zgo"
  refine for_inv (fun i ρ h' => h' = h1 ∧ ∃ (at0 : Int) (x : Option Val), ρ = [some (.ref t), some (.lst ((ns.map fun (n : Nat) => (n : Int)).map Val.int)), some (.int at0), some (.int (i : Int)), x] ∧ 0 ≤ at0 ∧ at0 < ((ns.drop i).sum : Int)) ⟨rfl, at0, none, rfl, a0, by simpa using a1⟩ ?_
  rintro i ρ h' ⟨rfl, at0, x, rfl, a0, a1⟩
  refine ⟨trivial, fun hi => ?_, fun z hz => ?_⟩
  · have : ns.length ≤ i := by simpa using hi
    rw [List.drop_of_length_le this] at a1
    simp at a1; omega
  · obtain ⟨c, hc, rfl⟩ := map_get hz
    rw [List.getElem?_map] at hc
    obtain ⟨k, hk, rfl⟩ : ∃ k, ns[i]? = some k ∧ c = (k : Int) := by
      cases e : ns[i]? with
      | none => rw [e] at hc; cases hc
      | some k => rw [e] at hc; exact ⟨k, rfl, (Option.some.inj hc).symm⟩
    have sd := sum_drop hk
    walk_at "zgo"
    refine i_ifd (fun e => ?_) (fun e => ?_)
    · walk_at "zgo"
      exact hp _ _ ⟨.thing i at0, rfl, ⟨k, by omega, by simpa using hk, a0, by omega⟩, T1, kp1⟩
    · walk_at "zgo"
      refine ⟨rfl, _, _, rfl, by omega, by omega⟩
/-! LC3 -/


theorem rd_law_thing {K : Fr} {p vs h Q} {X : XQ} (gd : Good K Q) (q : fs_law_thing.pre p vs h) (hp : ∀ v h', fs_law_thing.post p h v h' → Q v h') :
    r_law_thing (fun _ h' => Q .non h') Q (fun _ _ => False) (fun _ _ => False) (fun C v _ h' => X C v h') (startV ["tray", "sizes", "kind", "many", "k"] vs) h := by
  obtain ⟨t, g, n, ns⟩ := p
  obtain ⟨rfl, T, hn, hs, hs2⟩ := q
  show r_law_thing _ _ _ _ _ [some (.ref t), some (.lst (natsV ns)), none, none, none] h
  unfold r_law_thing
  walk_at "zgo"
  refine c_law_draw T (by omega) (by decide) (by decide) fun kind h1 k0 k1 T1 kp1 => ?_
  walk_at "zgo"
  refine i_ifd (fun e1 => ?_) (fun e1 => ?_)
  · walk_at "zgo"
    refine c_law_any T1 (by omega) fun r h2 r0 r1 T2 kp2 => ?_
    walk_at "zgo"
    exact hp _ _ ⟨.box r, rfl, ⟨r0, r1⟩, T2.more (by omega), kp1.trans kp2⟩
  walk_at "zgo"
  refine i_ifd (fun e2 => ?_) (fun e2 => ?_)
  · walk_at "zgo"
    refine i_newF ?_
    walk_at "zgo"
    refine c_law_draw T1 (by omega) (by decide) (by decide) fun c h2 c0 c1 T2 kp2 => ?_
    refine i_c ?_
    refine i_divW ⟨by decide, by decide⟩ ?_
    have em : ∃ m : Int, L2.atI [Val.int 5, Val.int 13] (c / 7) = some (.int m) ∧ 0 < m ∧ m ≤ 13 := by
      have : c / 7 = 0 ∨ c / 7 = 1 := by omega
      rcases this with e | e
      · exact ⟨5, by rw [e]; rfl, by decide, by decide⟩
      · exact ⟨13, by rw [e]; rfl, by decide, by decide⟩
    obtain ⟨m, em, m0, m1⟩ := em
    refine i_ixL em ?_
    walk_at "zgo"
    refine c_law_draw T2 (by omega) m0 (by omega) fun many h3 b0 b1 T3 kp3 => ?_
    walk_at "zgo"
    refine lc_inv (fun i acc h' => i ≤ many.toNat ∧ (∃ rs : List RefD, acc = rs.map RefD.v ∧ rs.length = i ∧ ∀ r ∈ rs, In ns r) ∧ Tray h' t g (n + 3 + i) ∧ Keep t g h h') ⟨Nat.zero_le _, ⟨[], rfl, rfl, by simp⟩, T3.more (by omega), (kp1.trans kp2).trans kp3⟩ ?_
    rintro i acc h4 ⟨hi, ⟨rs, rfl, hl, hb⟩, T4, kp4⟩
    refine ⟨trivial, fun hl2 => ?_, fun x hx => ?_⟩
    · rw [rng_len] at hl2
      refine i_newF ?_
      walk_at "zgo"
      exact hp _ _ ⟨.shelf rs, rfl, ⟨by omega, hb⟩, T4.more (by omega), kp4⟩
    · obtain ⟨hi3, rfl⟩ := rng_get hx
      walk_at "zgo"
      refine c_law_ref T4 (by omega) hs hs2 fun r h5 hr T5 kp5 => ?_
      refine ⟨by simp; omega, by omega, ⟨rs ++ [r], by simp, by simp [hl], fun k hk => ?_⟩, T5.more (by omega), kp4.trans kp5⟩
      rcases List.mem_append.mp hk with hk | hk
      · exact hb k hk
      · simp at hk; subst hk; exact hr
  walk_at "zgo"
  refine i_ifd (fun e3 => ?_) (fun e3 => ?_)
  · walk_at "zgo"
    refine c_law_ref T1 (by omega) hs hs2 fun r h5 hr T5 kp5 => ?_
    walk_at "zgo"
    exact hp _ _ ⟨.relay r, rfl, hr, T5.more (by omega), kp1.trans kp5⟩
  walk_at "zgo"
  refine i_newF ?_
  walk_at "zgo"
  have ek : kind = 7 ∨ kind = 8 := by omega
  rcases ek with rfl | rfl
  · refine i_ixL rfl ?_
    exact hp _ _ ⟨.maker, rfl, trivial, T1.more (by omega), kp1⟩
  · refine i_ixL rfl ?_
    exact hp _ _ ⟨.stone, rfl, trivial, T1.more (by omega), kp1⟩
/-- an owned list is told as one that is never changed again -/
theorem Good.frz {K : Fr} {Q : KQ} (g : Good K Q) {a : Addr} {xs : List Val} {h : Hh} (e : h a = some (.lst xs)) (q : Q (.lst xs) (hdel h a)) : Q (.ref a) h :=
  g _ _ _ _ (fun S F H w r x => by
    obtain ⟨u, x2, r2, s2⟩ := r.freeze e
    obtain ⟨ws, rfl, x3⟩ := x2
    rw [rel_ref] at x
    exact ⟨_, s2, r2, rel_lst.mpr ⟨a, ws, x, upd_same, Rels.mono s2 _ _ x3⟩⟩) q
theorem Good.drop {K : Fr} {Q : KQ} (g : Good K Q) {v : Val} {h h' : Hh} (e : ∀ a o, h' a = some o → h a = some o) (q : Q v h') : Q v h :=
  g _ _ _ _ (fun S F H w r x => ⟨S, Sub.refl S, r.drop e, x⟩) q
theorem sum_le {ns : List Nat} (h : ∀ k ∈ ns, k ≤ 12) : ns.sum ≤ 12 * ns.length := by
  induction ns with
  | nil => simp
  | cons n ns ih =>
    have h1 := h n (by simp)
    have h2 := ih fun k hk => h k (by simp [hk])
    simp only [List.sum_cons, List.length_cons]; omega
theorem sum_pos {ns : List Nat} {k : Nat} (h : k ∈ ns) (p : 0 < k) : 0 < ns.sum := by
  induction ns with
  | nil => simp at h
  | cons n ns ih =>
    simp only [List.sum_cons]
    rcases List.mem_cons.mp h with rfl | h
    · omega
    · have := ih h; omega
theorem rd_law_world {K : Fr} {p vs h Q} {X : XQ} (gd : Good K Q) (q : fs_law_world.pre p vs h) (hp : ∀ v h', fs_law_world.post p h v h' → Q v h') :
    r_law_world (fun _ h' => Q .non h') Q (fun _ _ => False) (fun _ _ => False) (fun C v _ h' => X C v h') (startV ["tray", "sizes", "rooms", "size", "k"] vs) h := by
  obtain ⟨t, g, n⟩ := p
  obtain ⟨rfl, T, hn⟩ := q
  show r_law_world _ _ _ _ _ [some (.ref t), none, none, none, none] h
  unfold r_law_world
  walk_at "zgo"
  refine c_law_sizes T (by omega) fun ns h1 n1 n8 nb T1 kp1 => ?_
  have hsum := sum_le nb
  walk_at "zgo"
  refine i_newO fun rr hr => ?_
  walk_at "zgo"
  have T1t := T1
  obtain ⟨ne, gs, a, fold, c, ht, hg, _⟩ := T1t
  have rt : rr ≠ t := (hne ht hr).symm
  have rg : rr ≠ g := (hne hg hr).symm
  have T2 : Tray (hup h1 rr (.lst [])) t g (n + 10) := by
    obtain ⟨ne, gs, a, fold, c, ht, hg, r⟩ := T1
    exact ⟨ne, gs, a, fold, c, by rw [hup_ne rt.symm]; exact ht, by rw [hup_ne rg.symm]; exact hg, r⟩
  refine for_inv (fun i ρ h' => ∃ (ws : Rooms) (x y : Option Val), ρ = [some (.ref t), some (.lst (natsV ns)), some (.ref rr), x, y] ∧ h' rr = some (.lst (ws.map houseV)) ∧ ws.map List.length = ns.take i ∧ i ≤ ns.length ∧ (∀ hs ∈ ws, ∀ th ∈ hs, th.Ok ns) ∧ Tray h' t g (n + 10 + 250 * i) ∧ ∀ b, b ≠ t → b ≠ g → b ≠ rr → h' b = h b)
    ⟨[], none, none, rfl, hup_same, by simp, by simp, by simp, T2.more (by omega), fun b b1 b2 b3 => by rw [hup_ne b3]; exact kp1 b b1 b2⟩ ?_
  rintro i ρ h' ⟨ws, x, y, rfl, hw, hl, hi, ok, T3, kp3⟩
  refine ⟨trivial, fun hi2 => ?_, fun z hz => ?_⟩
  · have hi3 : i = ns.length := by simp [natsV] at hi2; omega
    subst hi3
    rw [List.take_length] at hl
    walk_at "zgo"
    refine gd.frz hw (hp _ _ ⟨ws, rfl, ?_, ?_, ?_⟩)
    · have hwl : ws.length = ns.length := by rw [← hl, List.length_map]
      refine ⟨by omega, by omega, fun hs hh => ?_, fun hs hh th hth => by rw [hl]; exact ok hs hh th hth⟩
      have : hs.length ∈ ws.map List.length := List.mem_map.mpr ⟨hs, hh, rfl⟩
      rw [hl] at this
      exact nb _ this
    · obtain ⟨ne, gs, a, fold, c, ht, hg, r1, r2, r3, r4, r5, r6, r7⟩ := T3
      exact ⟨ne, gs, a, fold, c, by rw [hdel_ne rt.symm]; exact ht, by rw [hdel_ne rg.symm]; exact hg, r1, r2, r3, r4, r5, r6, by omega⟩
    · intro b b1 b2
      by_cases e : b = rr
      · subst e
        rw [hdel_same, ← kp1 b b1 b2]
        exact hr.symm
      · rw [hdel_ne e]
        exact kp3 b b1 b2 e
  · obtain ⟨k, hk, rfl⟩ := map_get hz
    have hk12 : k ≤ 12 := nb k (List.mem_of_getElem? hk)
    have hil : i < ns.length := (List.getElem?_eq_some_iff.mp hk).1
    walk_at "zgo"
    refine lc_inv (fun j acc h4 => j ≤ k ∧ (∃ hs : List Thing, acc = hs.map Thing.v ∧ hs.length = j ∧ ∀ th ∈ hs, th.Ok ns) ∧ Tray h4 t g (n + 10 + 250 * i + 20 * j) ∧ Keep t g h' h4) ⟨Nat.zero_le _, ⟨[], rfl, rfl, by simp⟩, T3.more (by omega), Keep.refl⟩ ?_
    rintro j acc h4 ⟨hj, ⟨hs, rfl, hl2, hb⟩, T4, kp4⟩
    refine ⟨trivial, fun hj2 => ?_, fun x hx => ?_⟩
    · rw [rng_len] at hj2
      have hjk : j = k := by omega
      subst hjk
      have hw4 : h4 rr = some (.lst (ws.map houseV)) := by rw [kp4 rr rt rg]; exact hw
      refine i_newF ?_
      walk_at "zgo"
      refine i_append hw4 (by have := congrArg List.length hl; simp at this ⊢; omega) ?_
      refine ⟨ws ++ [hs], _, _, rfl, by rw [hup_same]; simp [houseV], ?_, by omega, ?_, ?_, fun b b1 b2 b3 => by rw [hup_ne b3, kp4 b b1 b2]; exact kp3 b b1 b2 b3⟩
      · rw [List.map_append, hl, List.take_succ, hk, ← hl2]; rfl
      · intro hs2 hh th hth
        rcases List.mem_append.mp hh with hh | hh
        · exact ok hs2 hh th hth
        · simp at hh; subst hh; exact hb th hth
      · obtain ⟨ne, gs, a, fold, c, ht, hg, r1, r2, r3, r4, r5, r6, r7⟩ := T4
        exact ⟨ne, gs, a, fold, c, by rw [hup_ne rt.symm]; exact ht, by rw [hup_ne rg.symm]; exact hg, r1, r2, r3, r4, r5, r6, by omega⟩
    · obtain ⟨hj3, rfl⟩ := rng_get hx
      walk_at "zgo"
      refine c_law_thing T4 (by omega) (sum_pos (List.mem_of_getElem? hk) (by omega)) (by omega) fun th h5 hth T5 kp5 => ?_
      refine ⟨by simp; omega, by omega, ⟨hs ++ [th], by simp, by simp [hl2], fun u hu => ?_⟩, T5.more (by omega), kp4.trans kp5⟩
      rcases List.mem_append.mp hu with hu | hu
      · exact hb u hu
      · simp at hu; subst hu; exact hth
/-! LC4 -/


/-- values of tuples and lists of this depth -/
inductive PureV : Nat → Val → Prop
  | non (d) : PureV d .non
  | bl (d b) : PureV d (.bl b)
  | int (d i) : PureV d (.int i)
  | str (d z) : PureV d (.str z)
  | tup {d xs} : xs.length ≤ 1000000 → (∀ x ∈ xs, PureV d x) → PureV (d + 1) (.tup xs)
  | lst {d xs} : xs.length ≤ 1000000 → (∀ x ∈ xs, PureV d x) → PureV (d + 1) (.lst xs)
theorem PureV.up : ∀ {d : Nat} {x : Val}, PureV d x → PureV (d + 1) x
  | _, _, .non d => .non _
  | _, _, .bl d b => .bl _ b
  | _, _, .int d b => .int _ b
  | _, _, .str d b => .str _ b
  | _, _, .tup l h => .tup l fun x hx => (h x hx).up
  | _, _, .lst l h => .lst l fun x hx => (h x hx).up
theorem PureV.le {d e : Nat} {x : Val} (p : PureV d x) (h : d ≤ e) : PureV e x := by
  induction h with
  | refl => exact p
  | step _ ih => exact ih.up
/-- a list whose items can be read -/
inductive LsqA (h : Hh) : Val → List Val → Prop where
  | lst (xs) : LsqA h (.lst xs) xs
  | ref {a xs} : h a = some (.lst xs) → LsqA h (.ref a) xs
/-- alike, of this depth: lists may be owned -/
inductive DEq (h : Hh) : Nat → Val → Val → Prop where
  | non (d) : DEq h d .non .non
  | bl (d b) : DEq h d (.bl b) (.bl b)
  | int (d i) : DEq h d (.int i) (.int i)
  | str (d z) : DEq h d (.str z) (.str z)
  | tup {d : Nat} {xs ys : List Val} : xs.length ≤ 1000000 → xs.length = ys.length → (∀ (i : Nat) (x y : Val), xs[i]? = some x → ys[i]? = some y → DEq h d x y) → DEq h (d + 1) (.tup xs) (.tup ys)
  | lst {d : Nat} {x y : Val} {xs ys : List Val} : LsqA h x xs → LsqA h y ys → xs.length ≤ 1000000 → xs.length = ys.length → (∀ (i : Nat) (x y : Val), xs[i]? = some x → ys[i]? = some y → DEq h d x y) → DEq h (d + 1) x y
theorem PureV.deq {h : Hh} : ∀ {d : Nat} {x : Val}, PureV d x → DEq h d x x
  | _, _, .non d => .non _
  | _, _, .bl d b => .bl _ b
  | _, _, .int d b => .int _ b
  | _, _, .str d b => .str _ b
  | _, _, .tup l h => .tup l rfl fun i x y e1 e2 => by
    rw [e1] at e2
    cases e2
    exact (h x (List.mem_of_getElem? e1)).deq
  | _, _, .lst l h => .lst (.lst _) (.lst _) l rfl fun i x y e1 e2 => by
    rw [e1] at e2
    cases e2
    exact (h x (List.mem_of_getElem? e1)).deq
def fs_bot : FS where
  P := Unit
  pre := fun _ _ _ => False
  post := fun _ _ _ _ => True
theorem ok_bot {P : Program} {w : World} {K : Fr} {mg : Str → Option Value} {base : Heap} {CX : CXT} {f : Addr} {fd : FuncData} {ps : List Str} : FnOk P w K mg base CX 0 f fd ps (lSp K fs_bot) :=
  ⟨fun _ _ _ _ ⟨_, _, _, _, _, _, _, _, ⟨_, q, _⟩, _⟩ => q.elim, fun _ _ _ _ _ _ _ _ _ _ _ _ _ ⟨_, _, _, _, _, _, _, _, ⟨_, q, _⟩, _⟩ => q.elim⟩
def fs_law_alike : Nat → FS
  | 0 => fs_bot
  | d + 1 => {
    P := Val × Val
    pre := fun (x, y) vs h => vs = [x, y] ∧ DEq h d x y
    post := fun _ h v h' => v = .bl true ∧ h' = h }
theorem c_law_alike_deq {d : Nat} {x y : Val} {h : Hh} {E : XQ} {Q : KQ} (p : DEq h d x y) (k : Q (.bl true) h) : (fs_law_alike (d + 1)).sp [x, y] h E Q :=
  ⟨(x, y), ⟨rfl, p⟩, fun v h' ⟨a, b⟩ => by subst a b; exact k, fun _ _ _ z => z.elim⟩
theorem c_law_alike {d : Nat} {x : Val} {h : Hh} {E : XQ} {Q : KQ} (p : PureV d x) (k : Q (.bl true) h) : (fs_law_alike (d + 1)).sp [x, x] h E Q := c_law_alike_deq p.deq k
theorem c_law_alike_ref {d : Nat} {a : Addr} {xs : List Val} {h : Hh} {E : XQ} {Q : KQ} (p : PureV d (.lst xs)) (e : h a = some (.lst xs)) (k : Q (.bl true) h) : (fs_law_alike (d + 1)).sp [.lst xs, .ref a] h E Q := by
  cases p with
  | lst l hx => exact c_law_alike_deq (.lst (.lst _) (.ref e) l rfl fun i x y e1 e2 => by
      rw [e1] at e2
      cases e2
      exact (hx x (List.mem_of_getElem? e1)).deq) k
def r_law_alike (d : Nat) : WS :=
  wSeq (wIf (wTv (wIsN (wVar 1))) (wRet (wIsN (wVar 0))) (wNext))
  (wSeq (wIf (wTv (wCB cIsi (wCons (wVar 1) (wCons (wC (.ty "bool")) (wNil))))) (wRet (wAndV (wCB cIsi (wCons (wVar 0) (wCons (wC (.ty "bool")) (wNil)))) (wOp wEqS (wVar 0) (wVar 1)))) (wNext))
  (wSeq (wIf (wTv (wCB cIsi (wCons (wVar 1) (wCons (wC (.ty "int")) (wNil))))) (wRet (wAndV (wCB cIsi (wCons (wVar 0) (wCons (wC (.ty "int")) (wNil)))) (wAndV (wNotV (wCB cIsi (wCons (wVar 0) (wCons (wC (.ty "bool")) (wNil))))) (wOp wEqS (wVar 0) (wVar 1))))) (wNext))
  (wSeq (wIf (wTv (wCB cIsi (wCons (wVar 1) (wCons (wC (.ty "str")) (wNil))))) (wRet (wAndV (wCB cIsi (wCons (wVar 0) (wCons (wC (.ty "str")) (wNil)))) (wOp wEqS (wVar 0) (wVar 1)))) (wNext))
  (wSeq (wIf (wOr (wTv (wOp wNeS (wCB cIsi (wCons (wVar 0) (wCons (wC (.ty "list")) (wNil)))) (wCB cIsi (wCons (wVar 1) (wCons (wC (.ty "list")) (wNil)))))) (wTv (wOp wNeS (wCB cIsi (wCons (wVar 0) (wCons (wC (.ty "tuple")) (wNil)))) (wCB cIsi (wCons (wVar 1) (wCons (wC (.ty "tuple")) (wNil))))))) (wRet (wC (.bl false))) (wNext))
  (wSeq (wIf (wTv (wOp wNeS (wCB cLen (wCons (wVar 0) (wNil))) (wCB cLen (wCons (wVar 1) (wNil))))) (wRet (wC (.bl false))) (wNext))
  (wSeq (wFor (wiR1 (wCB cLen (wCons (wVar 1) (wNil)))) (wgName 2)
  (wIf (wNot (wTv (wCall (fs_law_alike d) [] (wCons (wOp wIx (wVar 0) (wVar 2)) (wCons (wOp wIx (wVar 1) (wVar 2)) (wNil)))))) (wRet (wC (.bl false))) (wNext)))
  (wRet (wC (.bl true)))))))))

theorem eqB_rfl {b : Bool} : decide (b = b) = true := decide_eq_true rfl
theorem atI_nat' {xs : List Val} {i : Nat} {v : Val} (h : xs[i]? = some v) : L2.atI xs (0 + (i : Int)) = some v := by
  rw [Int.zero_add]; exact L2.atI_nat h
theorem rd_law_alike {K : Fr} {d : Nat} {p vs h Q} {X : XQ} (gd : Good K Q) (q : (fs_law_alike (d + 1)).pre p vs h) (hp : ∀ v h', (fs_law_alike (d + 1)).post p h v h' → Q v h') :
    r_law_alike d (fun _ h' => Q .non h') Q (fun _ _ => False) (fun _ _ => False) (fun C v _ h' => X C v h') (startV ["found", "due", "k"] vs) h := by
  obtain ⟨p, y⟩ := p
  obtain ⟨rfl, pv⟩ := q
  have hq : Q (.bl true) h := hp _ _ ⟨rfl, rfl⟩
  clear hp
  show r_law_alike _ _ _ _ _ _ [some p, some y, none] h
  unfold r_law_alike
  cases pv with
  | non => 
    walk_at "zgo"
    exact hq
  | bl _ b =>
    walk_at "zgo"
    rw [eqB_rfl]
    exact hq
  | int _ b =>
    walk_at "zgo"
    simp only [decide_true]
    exact hq
  | str _ b =>
    walk_at "zgo"
    simp only [decide_true]
    exact hq
  | @tup e xs ys hl hle hx =>
    walk_at "zgo"
    refine for_inv (fun i ρ h' => h' = h ∧ ∃ x : Option Val, ρ = [some (.tup xs), some (.tup ys), x]) ⟨rfl, none, rfl⟩ ?_
    rintro i ρ h' ⟨rfl, x, rfl⟩
    refine ⟨trivial, fun _ => ?_, fun z hz => ?_⟩
    · walk_at "zgo"
      exact hq
    · obtain ⟨hi, rfl⟩ := rng_get hz
      have hi' : i < ys.length := by simpa using hi
      have hg : xs[i]? = some (xs[i]'(by omega)) := List.getElem?_eq_getElem (by omega)
      have hg2 : ys[i]? = some ys[i] := List.getElem?_eq_getElem hi'
      walk_at "zgo"
      refine i_ixT (atI_nat' hg) ?_
      walk_at "zgo"
      refine i_ixT (atI_nat' hg2) ?_
      walk_at "zgo"
      refine c_law_alike_deq (hx i _ _ hg hg2) ?_
      walk_at "zgo"
      exact ⟨rfl, _, rfl⟩
  | @lst e x y xs ys sx sy hl hle hx =>
    cases sx with
    | lst =>
      cases sy with
      | lst =>
        walk_at "zgo"
        refine for_inv (fun i ρ h' => h' = h ∧ ∃ x : Option Val, ρ = [some (.lst xs), some (.lst ys), x]) ⟨rfl, none, rfl⟩ ?_
        rintro i ρ h' ⟨rfl, x, rfl⟩
        refine ⟨trivial, fun _ => ?_, fun z hz => ?_⟩
        · walk_at "zgo"
          exact hq
        · obtain ⟨hi, rfl⟩ := rng_get hz
          have hi' : i < ys.length := by simpa using hi
          have hg : xs[i]? = some (xs[i]'(by omega)) := List.getElem?_eq_getElem (by omega)
          have hg2 : ys[i]? = some ys[i] := List.getElem?_eq_getElem hi'
          walk_at "zgo"
          refine i_ixL (atI_nat' hg) ?_
          walk_at "zgo"
          refine i_ixL (atI_nat' hg2) ?_
          walk_at "zgo"
          refine c_law_alike_deq (hx i _ _ hg hg2) ?_
          walk_at "zgo"
          exact ⟨rfl, _, rfl⟩
      | @ref b _ eb =>
        walk_at "zgo"
        iterate 5 ((first | refine i_isi (b := false) (.lst (.ref eb)) (by decide +kernel) ?_ | refine i_isi (b := true) (.lst (.ref eb)) (by decide +kernel) ?_); walk_at "zgo")
        refine for_inv (fun i ρ h' => h' = h ∧ ∃ x : Option Val, ρ = [some (.lst xs), some (.ref b), x]) ⟨rfl, none, rfl⟩ ?_
        rintro i ρ h' ⟨rfl, x, rfl⟩
        refine ⟨trivial, fun _ => ?_, fun z hz => ?_⟩
        · walk_at "zgo"
          exact hq
        · obtain ⟨hi, rfl⟩ := rng_get hz
          have hi' : i < ys.length := by simpa using hi
          have hg : xs[i]? = some (xs[i]'(by omega)) := List.getElem?_eq_getElem (by omega)
          have hg2 : ys[i]? = some ys[i] := List.getElem?_eq_getElem hi'
          walk_at "zgo"
          refine i_ixL (atI_nat' hg) ?_
          walk_at "zgo"
          refine i_ixR eb (atI_nat' hg2) ?_
          walk_at "zgo"
          refine c_law_alike_deq (hx i _ _ hg hg2) ?_
          walk_at "zgo"
          exact ⟨rfl, _, rfl⟩
    | @ref a _ ea =>
      cases sy with
      | lst =>
        walk_at "zgo"
        iterate 2 ((first | refine i_isi (b := false) (.lst (.ref ea)) (by decide +kernel) ?_ | refine i_isi (b := true) (.lst (.ref ea)) (by decide +kernel) ?_); walk_at "zgo")
        refine for_inv (fun i ρ h' => h' = h ∧ ∃ x : Option Val, ρ = [some (.ref a), some (.lst ys), x]) ⟨rfl, none, rfl⟩ ?_
        rintro i ρ h' ⟨rfl, x, rfl⟩
        refine ⟨trivial, fun _ => ?_, fun z hz => ?_⟩
        · walk_at "zgo"
          exact hq
        · obtain ⟨hi, rfl⟩ := rng_get hz
          have hi' : i < ys.length := by simpa using hi
          have hg : xs[i]? = some (xs[i]'(by omega)) := List.getElem?_eq_getElem (by omega)
          have hg2 : ys[i]? = some ys[i] := List.getElem?_eq_getElem hi'
          walk_at "zgo"
          refine i_ixR ea (atI_nat' hg) ?_
          walk_at "zgo"
          refine i_ixL (atI_nat' hg2) ?_
          walk_at "zgo"
          refine c_law_alike_deq (hx i _ _ hg hg2) ?_
          walk_at "zgo"
          exact ⟨rfl, _, rfl⟩
      | @ref b _ eb =>
        walk_at "zgo"
        iterate 7 ((first | refine i_isi (b := false) (.lst (.ref eb)) (by decide +kernel) ?_ | refine i_isi (b := true) (.lst (.ref eb)) (by decide +kernel) ?_ | refine i_isi (b := false) (.lst (.ref ea)) (by decide +kernel) ?_ | refine i_isi (b := true) (.lst (.ref ea)) (by decide +kernel) ?_); walk_at "zgo")
        refine for_inv (fun i ρ h' => h' = h ∧ ∃ x : Option Val, ρ = [some (.ref a), some (.ref b), x]) ⟨rfl, none, rfl⟩ ?_
        rintro i ρ h' ⟨rfl, x, rfl⟩
        refine ⟨trivial, fun _ => ?_, fun z hz => ?_⟩
        · walk_at "zgo"
          exact hq
        · obtain ⟨hi, rfl⟩ := rng_get hz
          have hi' : i < ys.length := by simpa using hi
          have hg : xs[i]? = some (xs[i]'(by omega)) := List.getElem?_eq_getElem (by omega)
          have hg2 : ys[i]? = some ys[i] := List.getElem?_eq_getElem hi'
          walk_at "zgo"
          refine i_ixR ea (atI_nat' hg) ?_
          walk_at "zgo"
          refine i_ixR eb (atI_nat' hg2) ?_
          walk_at "zgo"
          refine c_law_alike_deq (hx i _ _ hg hg2) ?_
          walk_at "zgo"
          exact ⟨rfl, _, rfl⟩
/-! ZP1 -/


/-! ### worlds -/
def Thing.refs : Thing → List RefD
  | .shelf rs => rs
  | .relay r => [r]
  | _ => []
def isThere (ws : Rooms) : RefD → Bool
  | .thing h n => decide (0 ≤ h ∧ h < (ws.length : Int) ∧ 0 ≤ n ∧ n < (((ws[h.toNat]?).getD []).length : Int))
  | .made _ _ _ => false
def isGood (ws : Rooms) (hs : List Thing) : Bool := decide (hs.length ≤ 12) && hs.all fun th => decide (th.refs.length ≤ 12) && th.refs.all (isThere ws)
def okWorld (ws : Rooms) : Bool := decide (1 ≤ ws.length) && decide (ws.length ≤ 8) && ws.all (isGood ws)
/-- a list of lists of things -/
def HsAt (h : Hh) (v : Val) (ws : Rooms) : Prop := ∃ xs, Seqq h v xs ∧ Paired (fun x hs => Seqq h x (hs.map Thing.v)) xs ws
/-- no list is long -/
structure SmallW (ws : Rooms) : Prop where
  len : ws.length ≤ 100000
  house : ∀ hs ∈ ws, hs.length ≤ 100000
def fs_refs_of : FS where
  P := Thing
  pre := fun th vs h => vs = [th.v]
  post := fun th h v h' => v = .lst (th.refs.map RefD.v) ∧ h' = h
theorem c_refs_of {th : Thing} {h : Hh} {E : XQ} {Q : KQ} (k : Q (.lst (th.refs.map RefD.v)) h) : fs_refs_of.sp [th.v] h E Q :=
  ⟨th, rfl, fun v h' ⟨a, b⟩ => by subst a b; exact k, fun _ _ _ z => z.elim⟩
def fs_is_there : FS where
  P := Val × Rooms × RefD
  pre := fun (x, ws, r) vs h => vs = [x, r.v] ∧ HsAt h x ws ∧ SmallW ws
  post := fun (x, ws, r) h v h' => v = .bl (isThere ws r) ∧ h' = h
theorem c_is_there {x : Val} {ws : Rooms} {r : RefD} {h : Hh} {E : XQ} {Q : KQ} (a : HsAt h x ws) (b : SmallW ws) (k : Q (.bl (isThere ws r)) h) : fs_is_there.sp [x, r.v] h E Q :=
  ⟨(x, ws, r), ⟨rfl, a, b⟩, fun v h' ⟨a, b⟩ => by subst a b; exact k, fun _ _ _ z => z.elim⟩
def fs_is_good : FS where
  P := Val × Rooms × Val × List Thing
  pre := fun (x, ws, y, hs) vs h => vs = [x, y] ∧ HsAt h x ws ∧ SmallW ws ∧ Seqq h y (hs.map Thing.v) ∧ hs.length ≤ 100000
  post := fun (x, ws, y, hs) h v h' => v = .bl (isGood ws hs) ∧ h' = h
theorem c_is_good {x y : Val} {ws : Rooms} {hs : List Thing} {h : Hh} {E : XQ} {Q : KQ} (a : HsAt h x ws) (b : SmallW ws) (c : Seqq h y (hs.map Thing.v)) (d : hs.length ≤ 100000) (k : Q (.bl (isGood ws hs)) h) : fs_is_good.sp [x, y] h E Q :=
  ⟨(x, ws, y, hs), ⟨rfl, a, b, c, d⟩, fun v h' ⟨a, b⟩ => by subst a b; exact k, fun _ _ _ z => z.elim⟩
def r_refs_of : WS :=
  wSeq (wIf (wTv (wOp wEqS (wOp wIx (wVar 0) (wC (.int 0))) (wC (.str "shelf")))) (wRet (wCB cList (wCons (wOp wIx (wVar 0) (wC (.int 1))) (wNil)))) (wNext))
  (wSeq (wIf (wTv (wOp wEqS (wOp wIx (wVar 0) (wC (.int 0))) (wC (.str "relay")))) (wRet (wLst (wCons (wOp wIx (wVar 0) (wC (.int 1))) (wNil)))) (wNext))
  (wRet (wLst (wNil))))

def r_is_there : WS :=
  wSeq (wIf (wOr (wTv (wOp wNeS (wOp wIx (wVar 1) (wC (.int 0))) (wC (.str "thing")))) (wOr (wTv (wOp wLt (wOp wIx (wVar 1) (wC (.int 1))) (wC (.int 0)))) (wTv (wOp wGe (wOp wIx (wVar 1) (wC (.int 1))) (wCB cLen (wCons (wVar 0) (wNil))))))) (wRet (wC (.bl false))) (wNext))
  (wRet (wChain wLe wLt (wC (.int 0)) (wOp wIx (wVar 1) (wC (.int 2))) (wCB cLen (wCons (wOp wIx (wVar 0) (wOp wIx (wVar 1) (wC (.int 1)))) (wNil)))))

def r_is_good : WS :=
  wSeq (wIf (wTv (wOp wGt (wCB cLen (wCons (wVar 1) (wNil))) (wC (.int 12)))) (wRet (wC (.bl false))) (wNext))
  (wSeq (wFor (wiL (wVar 1)) (wgName 2)
  (wSeq (wAsg (wCall fs_refs_of [] (wCons (wVar 2) (wNil))) (wgName 3))
  (wSeq (wIf (wTv (wOp wGt (wCB cLen (wCons (wVar 3) (wNil))) (wC (.int 12)))) (wRet (wC (.bl false))) (wNext))
  (wFor (wiL (wVar 3)) (wgName 4)
  (wIf (wNot (wTv (wCall fs_is_there [] (wCons (wVar 0) (wCons (wVar 4) (wNil)))))) (wRet (wC (.bl false))) (wNext))))))
  (wRet (wC (.bl true))))

theorem len_seqq {h : Hh} {x : Val} {xs : List Val} {Q : KQ} (q : Seqq h x xs) (k : Q (.int (xs.length : Int)) h) : cLen [x] h Q := ⟨_, _, rfl, .lst q, k⟩
theorem ix_seqq {h : Hh} {x : Val} {xs : List Val} {i : Int} {v : Val} {Q : KQ} (q : Seqq h x xs) (e : L2.atI xs i = some v) (k : Q v h) : wIx x (.int i) h Q := ⟨i, v, rfl, .lst q e, k⟩
theorem list_seqq {h : Hh} {x : Val} {xs : List Val} {Q : KQ} (q : Seqq h x xs) (k : NewL xs h Q) : cList [x] h Q := ⟨_, _, rfl, .lst q, k⟩
theorem its_seqq {h : Hh} {x : Val} {xs : List Val} {G : List Val → (Hh → Prop) → Hh → Prop} (q : Seqq h x xs) (k : ∀ chk, chk h → (∀ h', (∀ b, h' b = h b) → chk h') → G xs chk h) : Its h x G := by
  cases q with
  | lst => exact .inl ⟨xs, .inl rfl, k _ trivial fun _ _ => trivial⟩
  | scr => exact .inl ⟨xs, .inr rfl, k _ trivial fun _ _ => trivial⟩
  | ref e => exact .inr ⟨_, xs, rfl, e, k _ e fun h' z => by rw [z]; exact e⟩
theorem HsAt.len {h : Hh} {v : Val} {ws : Rooms} (q : HsAt h v ws) : ∃ xs, Seqq h v xs ∧ xs.length = ws.length := by
  obtain ⟨xs, a, b⟩ := q
  exact ⟨xs, a, Paired.length b⟩
theorem paired_get {α β : Type} {F : α → β → Prop} : ∀ {xs : List α} {ys : List β} {i : Nat} {y : β}, Paired F xs ys → ys[i]? = some y → ∃ x, xs[i]? = some x ∧ F x y
  | _, _, _, _, .nil, e => by simp at e
  | _, _, 0, _, .cons r _, e => by simp at e; subst e; exact ⟨_, rfl, r⟩
  | _, _, i + 1, y, .cons _ t, e => by
    obtain ⟨x, h1, h2⟩ := paired_get (i := i) (y := y) t (by simpa using e)
    exact ⟨x, by simpa using h1, h2⟩
theorem HsAt.at {h : Hh} {v : Val} {ws : Rooms} {i : Nat} {hs : List Thing} (q : HsAt h v ws) (e : ws[i]? = some hs) : ∃ xs x, Seqq h v xs ∧ xs[i]? = some x ∧ Seqq h x (hs.map Thing.v) ∧ xs.length = ws.length := by
  obtain ⟨xs, a, b⟩ := q
  obtain ⟨x, h1, h2⟩ := paired_get b e
  exact ⟨xs, x, a, h1, h2, Paired.length b⟩
theorem rd_refs_of {K : Fr} {p vs h Q} {X : XQ} (gd : Good K Q) (q : fs_refs_of.pre p vs h) (hp : ∀ v h', fs_refs_of.post p h v h' → Q v h') :
    r_refs_of (fun _ h' => Q .non h') Q (fun _ _ => False) (fun _ _ => False) (fun C v _ h' => X C v h') (startV ["thing"] vs) h := by
  obtain rfl := q
  have hq : Q (.lst ((p : Thing).refs.map RefD.v)) h := hp _ _ ⟨rfl, rfl⟩
  clear hp
  show r_refs_of _ _ _ _ _ [some (p : Thing).v] h
  unfold r_refs_of
  cases (p : Thing) with
  | box w => unfold Thing.v; walk_at "zgo"; exact i_newF hq
  | shelf rs => unfold Thing.v; walk_at "zgo"; exact i_newF hq
  | relay r => unfold Thing.v; walk_at "zgo"; exact i_newF hq
  | maker => unfold Thing.v; walk_at "zgo"; exact i_newF hq
  | stone => unfold Thing.v; walk_at "zgo"; exact i_newF hq
theorem rd_is_there {K : Fr} {p vs h Q} {X : XQ} (gd : Good K Q) (q : fs_is_there.pre p vs h) (hp : ∀ v h', fs_is_there.post p h v h' → Q v h') :
    r_is_there (fun _ h' => Q .non h') Q (fun _ _ => False) (fun _ _ => False) (fun C v _ h' => X C v h') (startV ["houses", "ref"] vs) h := by
  obtain ⟨x, ws, r⟩ := p
  obtain ⟨rfl, ha, sm⟩ := q
  have hq : Q (.bl (isThere ws r)) h := hp _ _ ⟨rfl, rfl⟩
  clear hp
  show r_is_there _ _ _ _ _ [some x, some r.v] h
  unfold r_is_there
  cases r with
  | made a b c => unfold RefD.v; walk_at "zgo"; exact hq
  | thing hh n =>
    unfold RefD.v
    simp only [isThere] at hq
    obtain ⟨xs, sx, hl⟩ := ha.len
    walk_at "zgo"
    refine i_ifd (fun e1 => ?_) (fun e1 => ?_)
    · walk_at "zgo"
      rw [decide_eq_false (by omega)] at hq
      exact hq
    walk_at "zgo"
    refine len_seqq sx ?_
    rw [hl]
    walk_at "zgo"
    refine i_ifd (fun e2 => ?_) (fun e2 => ?_)
    · walk_at "zgo"
      rw [decide_eq_false (by omega)] at hq
      exact hq
    have h0 : 0 ≤ hh := by omega
    have hlt : hh.toNat < ws.length := by omega
    have hw : ws[hh.toNat]? = some ws[hh.toNat] := List.getElem?_eq_getElem hlt
    obtain ⟨ys, y, sy, hy, hy2, hl2⟩ := ha.at hw
    have hsm := sm.house _ (List.getElem_mem hlt)
    rw [hw] at hq
    simp only [Option.getD_some] at hq
    walk_at "zgo"
    refine i_ifd (fun e3 => ?_) (fun e3 => ?_)
    · walk_at "zgo"
      refine ix_seqq sy (v := y) ?_ ?_
      · have : hh = ((hh.toNat : Nat) : Int) := by omega
        rw [this]
        exact L2.atI_nat hy
      walk_at "zgo"
      refine len_seqq hy2 ?_
      walk_at "zgo"
      rw [List.length_map]
      have e : decide (0 ≤ hh ∧ hh < (List.length ws : Int) ∧ 0 ≤ n ∧ n < (ws[hh.toNat].length : Int)) = decide (n < (ws[hh.toNat].length : Int)) := by
        by_cases q : n < (ws[hh.toNat].length : Int)
        · rw [decide_eq_true q, decide_eq_true ⟨h0, by omega, e3, q⟩]
        · rw [decide_eq_false q, decide_eq_false (fun z => q z.2.2.2)]
      rw [e] at hq
      exact hq
    · rw [decide_eq_false (by omega)] at hq
      exact hq
theorem isGood_step {ws : Rooms} {hs : List Thing} {i : Nat} {th : Thing} (e : hs[i]? = some th) (f : (decide (th.refs.length ≤ 12) && th.refs.all (isThere ws)) = false) : isGood ws hs = false := by
  unfold isGood
  cases q : hs.all fun th => decide (th.refs.length ≤ 12) && th.refs.all (isThere ws) with
  | false => simp
  | true =>
    rw [List.all_eq_true] at q
    rw [q th (List.mem_of_getElem? e)] at f
    cases f
theorem rd_is_good {K : Fr} {p vs h Q} {X : XQ} (gd : Good K Q) (q : fs_is_good.pre p vs h) (hp : ∀ v h', fs_is_good.post p h v h' → Q v h') :
    r_is_good (fun _ h' => Q .non h') Q (fun _ _ => False) (fun _ _ => False) (fun C v _ h' => X C v h') (startV ["houses", "things", "thing", "refs", "ref"] vs) h := by
  obtain ⟨x, ws, y, hs⟩ := p
  obtain ⟨rfl, ha, sm, sy, hl⟩ := q
  have hq : Q (.bl (isGood ws hs)) h := hp _ _ ⟨rfl, rfl⟩
  clear hp
  show r_is_good _ _ _ _ _ [some x, some y, none, none, none] h
  unfold r_is_good
  walk_at "zgo"
  refine len_seqq sy ?_
  rw [List.length_map]
  walk_at "zgo"
  refine i_ifd (fun e1 => ?_) (fun e1 => ?_)
  · walk_at "zgo"
    have e : isGood ws hs = false := by unfold isGood; rw [decide_eq_false (by omega)]; rfl
    rw [e] at hq
    exact hq
  walk_at "zgo"
  refine its_seqq sy fun chk hc hc2 => ?_
  refine for_inv (fun i ρ h' => h' = h ∧ i ≤ hs.length ∧ (∀ j th, j < i → hs[j]? = some th → (decide (th.refs.length ≤ 12) && th.refs.all (isThere ws)) = true) ∧ ∃ a b c : Option Val, ρ = [some x, some y, a, b, c]) ⟨rfl, Nat.zero_le _, fun _ _ z => absurd z (Nat.not_lt_zero _), none, none, none, rfl⟩ ?_
  rintro i ρ h' ⟨rfl, hi, ok, a, b, c, rfl⟩
  refine ⟨hc, fun hi2 => ?_, fun z hz => ?_⟩
  · have : i = hs.length := by rw [List.length_map] at hi2; omega
    subst this
    walk_at "zgo"
    have e : isGood ws hs = true := by
      unfold isGood
      rw [decide_eq_true (by omega), Bool.true_and, List.all_eq_true]
      intro th hth
      obtain ⟨j, hj⟩ := List.getElem?_of_mem hth
      exact ok j th (List.getElem?_eq_some_iff.mp hj).1 hj
    rw [e] at hq
    exact hq
  · obtain ⟨th, hth, rfl⟩ := map_get hz
    have hil : i < hs.length := (List.getElem?_eq_some_iff.mp hth).1
    walk_at "zgo"
    refine c_refs_of ?_
    walk_at "zgo"
    rw [List.length_map]
    refine i_ifd (fun e2 => ?_) (fun e2 => ?_)
    · walk_at "zgo"
      rw [isGood_step hth (by rw [decide_eq_false (by omega)]; rfl)] at hq
      exact hq
    walk_at "zgo"
    refine for_inv (fun k ρ h2 => h2 = h' ∧ k ≤ th.refs.length ∧ (∀ r, r ∈ th.refs.take k → isThere ws r = true) ∧ ∃ a : Option Val, ρ = [some x, some y, some th.v, some (.lst (th.refs.map RefD.v)), a]) ⟨rfl, Nat.zero_le _, by simp, _, rfl⟩ ?_
    rintro k ρ h2 ⟨rfl, hk, ok2, a, rfl⟩
    refine ⟨trivial, fun hk2 => ?_, fun z hz => ?_⟩
    · have : k = th.refs.length := by rw [List.length_map] at hk2; omega
      subst this
      rw [List.take_length] at ok2
      refine ⟨rfl, hil, fun j u hj hu => ?_, _, _, _, rfl⟩
      by_cases ej : j = i
      · subst ej
        rw [hth] at hu; cases hu
        rw [decide_eq_true (by omega), Bool.true_and, List.all_eq_true]
        exact ok2
      · exact ok j u (by omega) hu
    · obtain ⟨r, hr, rfl⟩ := map_get hz
      have hkl : k < th.refs.length := (List.getElem?_eq_some_iff.mp hr).1
      walk_at "zgo"
      refine c_is_there ha sm ?_
      walk_at "zgo"
      cases er : isThere ws r with
      | true =>
        walk_at "zgo"
        refine ⟨rfl, hkl, fun u hu => ?_, _, rfl⟩
        rw [List.take_succ, hr] at hu
        rcases List.mem_append.mp hu with hu | hu
        · exact ok2 u hu
        · simp at hu; subst hu; exact er
      | false =>
        walk_at "zgo"
        have e3 : th.refs.all (isThere ws) = false := by
          cases q : th.refs.all (isThere ws) with
          | false => rfl
          | true =>
            rw [List.all_eq_true] at q
            rw [q r (List.mem_of_getElem? hr)] at er
            cases er
        rw [isGood_step hth (by rw [e3, Bool.and_false])] at hq
        exact hq
/-! ZP2 -/


abbrev worldV (cl : Str → Addr) (ws : Rooms) : Val := .obj (cl "World") [("houses_kept", roomsV ws)]
def fs_World___init__ (cl : Str → Addr) : FS where
  P := Addr × Val × Rooms
  pre := fun (a, v, ws) vs h => vs = [.ref a, v] ∧ h a = some (.ins (cl "World") []) ∧ HsAt h v ws ∧ SmallW ws
  post := fun (a, v, ws) h r h' => okWorld ws = true ∧ r = .non ∧ h' = hup h a (.ins (cl "World") [("houses_kept", roomsV ws)])
  xpost := fun (a, v, ws) h C r h' => okWorld ws = false ∧ C = cl "NoWorld" ∧ r = .non ∧ h' = h
def fs_World_house (cl : Str → Addr) : FS where
  P := Rooms × Int × Bool
  pre := fun (ws, n, fz) vs h => vs = [worldV cl ws, .int n] ∧ SmallW ws
  post := fun (ws, n, fz) h r h' => 0 ≤ n ∧ ∃ hs, ws[n.toNat]? = some hs ∧ if fz then r = houseV hs ∧ h' = h else ∃ a, h a = none ∧ r = .ref a ∧ h' = hup h a (.lst (hs.map Thing.v))
  xpost := fun (ws, n, fz) h C r h' => (n < 0 ∨ (ws.length : Int) ≤ n) ∧ C = cl "NoHouse" ∧ r = .int n ∧ h' = h
def fs_World___len__ (cl : Str → Addr) : FS where
  P := Rooms
  pre := fun ws vs h => vs = [worldV cl ws] ∧ SmallW ws
  post := fun ws h r h' => r = .int (ws.length : Int) ∧ h' = h
theorem c_World_len {cl : Str → Addr} {ws : Rooms} {h : Hh} {E : XQ} {Q : KQ} (s : SmallW ws) (k : Q (.int (ws.length : Int)) h) : (fs_World___len__ cl).sp [worldV cl ws] h E Q :=
  ⟨ws, ⟨rfl, s⟩, fun v h' ⟨a, b⟩ => by subst a b; exact k, fun _ _ _ z => z.elim⟩
/-- a told house, never changed -/
theorem c_World_house {cl : Str → Addr} {ws : Rooms} {n : Int} {hs : List Thing} {h : Hh} {E : XQ} {Q : KQ} (s : SmallW ws) (h0 : 0 ≤ n) (e : ws[n.toNat]? = some hs) (k : Q (houseV hs) h) : (fs_World_house cl).sp [worldV cl ws, .int n] h E Q :=
  ⟨(ws, n, true), ⟨rfl, s⟩, fun v h' ⟨_, hs2, e2, a⟩ => by
    rw [e] at e2; cases e2
    obtain ⟨a, b⟩ := a
    subst a b; exact k, fun C v h' ⟨z, _⟩ => by
    have := (List.getElem?_eq_some_iff.mp e).1
    omega⟩
/-- a told house, owned -/
theorem c_World_houseO {cl : Str → Addr} {ws : Rooms} {n : Int} {hs : List Thing} {h : Hh} {E : XQ} {Q : KQ} (s : SmallW ws) (h0 : 0 ≤ n) (e : ws[n.toNat]? = some hs) (k : ∀ a, h a = none → Q (.ref a) (hup h a (.lst (hs.map Thing.v)))) : (fs_World_house cl).sp [worldV cl ws, .int n] h E Q :=
  ⟨(ws, n, false), ⟨rfl, s⟩, fun v h' ⟨_, hs2, e2, a⟩ => by
    rw [e] at e2; cases e2
    obtain ⟨b, hb, a, c⟩ := a
    subst a c; exact k b hb, fun C v h' ⟨z, _⟩ => by
    have := (List.getElem?_eq_some_iff.mp e).1
    omega⟩
theorem c_World_make {cl : Str → Addr} {a : Addr} {v : Val} {ws : Rooms} {h : Hh} {E : XQ} {Q : KQ} (e : h a = some (.ins (cl "World") [])) (hs : HsAt h v ws) (s : SmallW ws) (ok : okWorld ws = true) (k : Q .non (hup h a (.ins (cl "World") [("houses_kept", roomsV ws)]))) : (fs_World___init__ cl).sp [.ref a, v] h E Q :=
  ⟨(a, v, ws), ⟨rfl, e, hs, s⟩, fun r h' ⟨_, a, b⟩ => by subst a b; exact k, fun C v h' ⟨z, _⟩ => by rw [ok] at z; cases z⟩
def r_World___init__ (cl : Str → Addr) : WS :=
  wSeq (wIf (wOr (wTv (wOp wLt (wCB cLen (wCons (wVar 1) (wNil))) (wC (.int 1)))) (wTv (wOp wGt (wCB cLen (wCons (wVar 1) (wNil))) (wC (.int 8))))) (wRaise (cl "NoWorld") (wC .non)) (wNext))
  (wSeq (wFor (wiL (wVar 1)) (wgName 2)
  (wIf (wNot (wTv (wCall fs_is_good [] (wCons (wVar 1) (wCons (wVar 2) (wNil)))))) (wRaise (cl "NoWorld") (wC .non)) (wNext)))
  (wFldS (cl "World") (wVar 0) (wLc (wiL (wVar 1)) (tg1 2) wYes (wCB cList (wCons (wVar 2) (wNil))) [2]) "houses_kept"))

def r_World_house (cl : Str → Addr) : WS :=
  wSeq (wIf (wOr (wTv (wOp wLt (wVar 1) (wC (.int 0)))) (wTv (wOp wGe (wVar 1) (wCB cLen (wCons (wFld (cl "World") (wVar 0) "houses_kept") (wNil)))))) (wRaise (cl "NoHouse") (wVar 1)) (wNext))
  (wRet (wCB cList (wCons (wOp wIx (wFld (cl "World") (wVar 0) "houses_kept") (wVar 1)) (wNil))))

def r_World___len__ (cl : Str → Addr) : WS :=
  wRet (wCB cLen (wCons (wFld (cl "World") (wVar 0) "houses_kept") (wNil)))

theorem atI_toNat {xs : List Val} {n : Int} {v : Val} (h0 : 0 ≤ n) (h : xs[n.toNat]? = some v) : L2.atI xs n = some v := by
  have e : n = ((n.toNat : Nat) : Int) := by omega
  rw [e]
  exact L2.atI_nat h
theorem small_of {ws : Rooms} {hs : List Thing} {i : Nat} (s : SmallW ws) (e : ws[i]? = some hs) : hs.length ≤ 100000 := s.house _ (List.mem_of_getElem? e)
theorem rd_World___len__ {K : Fr} {cl : Str → Addr} {p : Rooms} {vs h Q} {X : XQ} (gd : Good K Q) (q : (fs_World___len__ cl).pre p vs h) (hp : ∀ v h', (fs_World___len__ cl).post p h v h' → Q v h') :
    r_World___len__ cl (fun _ h' => Q .non h') Q (fun _ _ => False) (fun _ _ => False) (fun C v _ h' => X C v h') (startV ["self"] vs) h := by
  obtain ⟨rfl, sm⟩ := q
  have hq := hp _ _ ⟨rfl, rfl⟩
  clear hp
  show r_World___len__ _ _ _ _ _ _ [some (.obj (cl "World") [("houses_kept", .lst ((p : Rooms).map houseV))])] h
  unfold r_World___len__
  walk_at "zgo"
  rw [List.length_map]
  exact hq
theorem rd_World_house {K : Fr} {cl : Str → Addr} {p vs h Q} {X : XQ} (gd : Good K Q) (q : (fs_World_house cl).pre p vs h) (hp : ∀ v h', (fs_World_house cl).post p h v h' → Q v h') (hx : ∀ C v h', (fs_World_house cl).xpost p h C v h' → X C v h') :
    r_World_house cl (fun _ h' => Q .non h') Q (fun _ _ => False) (fun _ _ => False) (fun C v _ h' => X C v h') (startV ["self", "number"] vs) h := by
  obtain ⟨ws, n, fz⟩ := p
  obtain ⟨rfl, sm⟩ := q
  show r_World_house _ _ _ _ _ _ [some (.obj (cl "World") [("houses_kept", .lst (ws.map houseV))]), some (.int n)] h
  unfold r_World_house
  walk_at "zgo"
  refine i_ifd (fun e1 => ?_) (fun e1 => ?_)
  · walk_at "zgo"
    exact hx _ _ _ ⟨.inl e1, rfl, rfl, rfl⟩
  walk_at "zgo"
  rw [List.length_map]
  refine i_ifd (fun e2 => ?_) (fun e2 => ?_)
  · walk_at "zgo"
    exact hx _ _ _ ⟨.inr e2, rfl, rfl, rfl⟩
  walk_at "zgo"
  have hlt : n.toNat < ws.length := by omega
  have hw : ws[n.toNat]? = some ws[n.toNat] := List.getElem?_eq_getElem hlt
  refine i_ixL (v := houseV ws[n.toNat]) ?_ ?_
  · refine atI_toNat (by omega) ?_
    rw [List.getElem?_map, hw]; rfl
  unfold houseV
  walk_at "zgo"
  cases fz with
  | true => exact i_newF (hp _ _ ⟨by omega, _, hw, rfl, rfl⟩)
  | false => exact i_newO fun a ha => hp _ _ ⟨by omega, _, hw, a, ha, rfl, rfl⟩
theorem rd_World___init__ {K : Fr} {cl : Str → Addr} {p vs h Q} {X : XQ} (gd : Good K Q) (q : (fs_World___init__ cl).pre p vs h) (hp : ∀ v h', (fs_World___init__ cl).post p h v h' → Q v h') (hx : ∀ C v h', (fs_World___init__ cl).xpost p h C v h' → X C v h') :
    r_World___init__ cl (fun _ h' => Q .non h') Q (fun _ _ => False) (fun _ _ => False) (fun C v _ h' => X C v h') (startV ["self", "houses", "things"] vs) h := by
  obtain ⟨a, v, ws⟩ := p
  obtain ⟨rfl, ha, hs, sm⟩ := q
  show r_World___init__ _ _ _ _ _ _ [some (.ref a), some v, none] h
  unfold r_World___init__
  obtain ⟨xs, sv, pr⟩ := id hs
  have hl := Paired.length pr
  have hsm := sm.len
  have bad : okWorld ws = false → X (cl "NoWorld") .non h := fun e => hx _ _ _ ⟨e, rfl, rfl, rfl⟩
  walk_at "zgo"
  refine len_seqq sv ?_
  walk_at "zgo"
  rw [hl]
  refine i_ifd (fun e1 => ?_) (fun e1 => ?_)
  · walk_at "zgo"
    exact bad (by unfold okWorld; rw [decide_eq_false (by omega)]; rfl)
  walk_at "zgo"
  refine len_seqq sv ?_
  walk_at "zgo"
  rw [hl]
  refine i_ifd (fun e2 => ?_) (fun e2 => ?_)
  · walk_at "zgo"
    exact bad (by unfold okWorld; rw [decide_eq_false (p := ws.length ≤ 8) (by omega), Bool.and_false]; rfl)
  walk_at "zgo"
  refine its_seqq sv fun chk hc hc2 => ?_
  refine for_inv (fun i ρ h' => h' = h ∧ i ≤ ws.length ∧ (∀ hs, hs ∈ ws.take i → isGood ws hs = true) ∧ ∃ x : Option Val, ρ = [some (.ref a), some v, x]) ⟨rfl, Nat.zero_le _, by simp, _, rfl⟩ ?_
  rintro i ρ h2 ⟨rfl, hi, ok, x, rfl⟩
  refine ⟨hc, fun hi2 => ?_, fun z hz => ?_⟩
  · have : i = ws.length := by omega
    subst this
    rw [List.take_length] at ok
    have okw : okWorld ws = true := by
      unfold okWorld
      rw [decide_eq_true (by omega), decide_eq_true (by omega), Bool.true_and, Bool.true_and, List.all_eq_true]
      exact ok
    walk_at "zgo"
    refine its_seqq sv fun chk hc hc2 => ?_
    refine lc_inv (fun i acc h3 => h3 = h2 ∧ i ≤ ws.length ∧ acc = (ws.take i).map houseV) ⟨rfl, Nat.zero_le _, by simp⟩ ?_
    rintro i acc h3 ⟨rfl, hi3, rfl⟩
    refine ⟨hc, fun hi4 => ?_, fun z hz => ?_⟩
    · have : i = ws.length := by omega
      subst this
      rw [List.take_length]
      refine i_newF ?_
      walk_at "zgo"
      exact ⟨a, [], rfl, ha, by decide, hp _ _ ⟨okw, rfl, rfl⟩⟩
    · have hiw : i < ws.length := by rw [← hl]; exact (List.getElem?_eq_some_iff.mp hz).1
      obtain ⟨y, hy, fy⟩ := paired_get pr (List.getElem?_eq_getElem hiw)
      rw [hz] at hy; cases hy
      walk_at "zgo"
      refine list_seqq fy (i_newF ⟨by simp; omega, rfl, hiw, ?_⟩)
      rw [List.take_succ, List.getElem?_eq_getElem hiw, List.map_append]
      rfl
  · have hiw : i < ws.length := by rw [← hl]; exact (List.getElem?_eq_some_iff.mp hz).1
    have hw := List.getElem?_eq_getElem hiw
    obtain ⟨y, hy, fy⟩ := paired_get pr hw
    rw [hz] at hy; cases hy
    walk_at "zgo"
    refine c_is_good hs sm fy (small_of sm hw) ?_
    walk_at "zgo"
    cases eg : isGood ws ws[i] with
    | true =>
      walk_at "zgo"
      refine ⟨rfl, hiw, fun u hu => ?_, _, rfl⟩
      rw [List.take_succ, hw] at hu
      rcases List.mem_append.mp hu with hu | hu
      · exact ok u hu
      · simp at hu; subst hu; exact eg
    | false =>
      walk_at "zgo"
      refine bad ?_
      unfold okWorld
      cases q : ws.all (isGood ws) with
      | false => simp
      | true =>
        rw [List.all_eq_true] at q
        rw [q _ (List.getElem_mem hiw)] at eg
        cases eg
/-! ZE -/
/-! ### worlds as data -/
def RefD.d : RefD → PyData
  | .thing h n => .tuple [.str "thing", .int h, .int n]
  | .made h a r => .tuple [.str "made", .int h, .int a, .int r]
def Thing.d : Thing → PyData
  | .box w => .tuple [.str "box", .int w]
  | .shelf rs => .tuple [.str "shelf", .tuple (rs.map RefD.d)]
  | .relay r => .tuple [.str "relay", r.d]
  | .maker => .tuple [.str "maker"]
  | .stone => .tuple [.str "stone"]
def houseD (hs : List Thing) : PyData := .list (hs.map Thing.d)
def roomsD (ws : Rooms) : PyData := .list (ws.map houseD)
theorem dvs_map {α : Type} {h : Hh} {f : α → Val} {g : α → PyData} (k : ∀ x, Dv h (f x) (g x)) : ∀ xs : List α, Dvs h (xs.map f) (xs.map g)
  | [] => .nil
  | x :: xs => .cons (k x) (dvs_map k xs)
theorem RefD.dv {h : Hh} : ∀ r : RefD, Dv h r.v r.d
  | .thing a n => .tup (.cons (.str _) (.cons (.int _) (.cons (.int _) .nil)))
  | .made a b c => .tup (.cons (.str _) (.cons (.int _) (.cons (.int _) (.cons (.int _) .nil))))
theorem Thing.dv {h : Hh} : ∀ t : Thing, Dv h t.v t.d
  | .box w => .tup (.cons (.str _) (.cons (.int _) .nil))
  | .shelf rs => .tup (.cons (.str _) (.cons (.tup (dvs_map RefD.dv rs)) .nil))
  | .relay r => .tup (.cons (.str _) (.cons r.dv .nil))
  | .maker => .tup (.cons (.str _) .nil)
  | .stone => .tup (.cons (.str _) .nil)
theorem houseV_dv {h : Hh} (hs : List Thing) : Dv h (houseV hs) (houseD hs) := .lst (dvs_map Thing.dv hs)
theorem roomsV_dv {h : Hh} (ws : Rooms) : Dv h (roomsV ws) (roomsD ws) := .lst (dvs_map houseV_dv ws)
/-- may be laid, of at most this depth -/
def LayD (n : Nat) (d : PyData) : Prop := d.canLay0 = true ∧ d.depth ≤ n
theorem lay_list {n : Nat} {ds : List PyData} (h : ∀ d ∈ ds, LayD n d) : PyData.canLayAll0 ds = true ∧ PyData.depthAll ds ≤ n := by
  induction ds with
  | nil => exact ⟨by simp [PyData.canLayAll0], by simp [PyData.depthAll]⟩
  | cons d ds ih =>
    obtain ⟨a, b⟩ := h d (by simp)
    obtain ⟨c, e⟩ := ih fun x hx => h x (by simp [hx])
    exact ⟨by simp [PyData.canLayAll0, a, c], by simp [PyData.depthAll]; omega⟩
theorem LayD.list {n : Nat} {ds : List PyData} (h : ∀ d ∈ ds, LayD n d) : LayD (n + 1) (.list ds) := by
  obtain ⟨a, b⟩ := lay_list h
  exact ⟨by simp [PyData.canLay0, a], by simp [PyData.depth]; omega⟩
theorem LayD.tuple {n : Nat} {ds : List PyData} (h : ∀ d ∈ ds, LayD n d) : LayD (n + 1) (.tuple ds) := by
  obtain ⟨a, b⟩ := lay_list h
  exact ⟨by simp [PyData.canLay0, a], by simp [PyData.depth]; omega⟩
theorem LayD.le {n m : Nat} {d : PyData} (h : LayD n d) (l : n ≤ m) : LayD m d := ⟨h.1, Nat.le_trans h.2 l⟩
theorem LayD.int (n : Nat) (i : Int) : LayD n (.int i) := ⟨by simp [PyData.canLay0], by simp [PyData.depth]⟩
theorem LayD.bool (n : Nat) (i : Bool) : LayD n (.bool i) := ⟨by simp [PyData.canLay0], by simp [PyData.depth]⟩
theorem LayD.none (n : Nat) : LayD n .none := ⟨by simp [PyData.canLay0], by simp [PyData.depth]⟩
theorem LayD.str (n : Nat) {z : Str} (h : PyData.strOk z = true) : LayD n (.str z) := ⟨by simp [PyData.canLay0, h], by simp [PyData.depth]⟩
theorem LayD.shaped {n : Nat} {d : PyData} (h : LayD n d) (l : n ≤ 64) : SeqAt.shaped d = true := by
  unfold SeqAt.shaped
  rw [h.1, decide_eq_true (Nat.le_trans h.2 l)]; rfl
theorem RefD.lay (r : RefD) : LayD 1 r.d := by
  cases r with
  | thing h n =>
    refine LayD.tuple (n := 0) fun d hd => ?_
    simp only [List.mem_cons, List.not_mem_nil, or_false] at hd
    rcases hd with rfl | rfl | rfl
    · exact .str 0 (by decide +kernel)
    · exact .int 0 _
    · exact .int 0 _
  | made h a n =>
    refine LayD.tuple (n := 0) fun d hd => ?_
    simp only [List.mem_cons, List.not_mem_nil, or_false] at hd
    rcases hd with rfl | rfl | rfl | rfl
    · exact .str 0 (by decide +kernel)
    · exact .int 0 _
    · exact .int 0 _
    · exact .int 0 _
theorem Thing.lay (t : Thing) : LayD 3 t.d := by
  cases t with
  | box w =>
    refine LayD.tuple (n := 2) fun d hd => ?_
    simp only [List.mem_cons, List.not_mem_nil, or_false] at hd
    rcases hd with rfl | rfl
    · exact .str 2 (by decide +kernel)
    · exact .int 2 _
  | shelf rs =>
    refine LayD.tuple (n := 2) fun d hd => ?_
    simp only [List.mem_cons, List.not_mem_nil, or_false] at hd
    rcases hd with rfl | rfl
    · exact .str 2 (by decide +kernel)
    · refine LayD.tuple (n := 1) fun d hd => ?_
      obtain ⟨r, _, rfl⟩ := List.mem_map.mp hd
      exact r.lay
  | relay r =>
    refine LayD.tuple (n := 2) fun d hd => ?_
    simp only [List.mem_cons, List.not_mem_nil, or_false] at hd
    rcases hd with rfl | rfl
    · exact .str 2 (by decide +kernel)
    · exact r.lay.le (by decide)
  | maker =>
    refine LayD.tuple (n := 2) fun d hd => ?_
    simp only [List.mem_cons, List.not_mem_nil, or_false] at hd
    subst hd
    exact .str 2 (by decide +kernel)
  | stone =>
    refine LayD.tuple (n := 2) fun d hd => ?_
    simp only [List.mem_cons, List.not_mem_nil, or_false] at hd
    subst hd
    exact .str 2 (by decide +kernel)
theorem house_lay (hs : List Thing) : LayD 4 (houseD hs) := LayD.list fun d hd => by
  obtain ⟨t, _, rfl⟩ := List.mem_map.mp hd
  exact t.lay
theorem rooms_lay (ws : Rooms) : LayD 5 (roomsD ws) := LayD.list fun d hd => by
  obtain ⟨t, _, rfl⟩ := List.mem_map.mp hd
  exact house_lay t
/-- two that stand for the same data -/
theorem ne_same {h : Hh} {x y : Val} {d : PyData} {n : Nat} {Q : KQ} (a : Dv h x d) (b : Dv h y d) (l : LayD n d) (ln : n ≤ 64) (k : Q (.bl false) h) : wNeD x y h Q := by
  refine ⟨d, d, a, b, l.shaped ln, l.shaped ln, ?_⟩
  rw [SeqAt.eqv_refl d l.1]
  exact k
theorem eq_same {h : Hh} {x y : Val} {d : PyData} {n : Nat} {Q : KQ} (a : Dv h x d) (b : Dv h y d) (l : LayD n d) (ln : n ≤ 64) (k : Q (.bl true) h) : wEqD x y h Q := by
  refine ⟨d, d, a, b, l.shaped ln, l.shaped ln, ?_⟩
  rw [SeqAt.eqv_refl d l.1]
  exact k
/-! as values of tuples and lists -/
theorem RefD.pure (r : RefD) : PureV 1 r.v := by
  cases r with
  | thing h n =>
    refine .tup (by simp) fun d hd => ?_
    simp only [List.mem_cons, List.not_mem_nil, or_false] at hd
    rcases hd with rfl | rfl | rfl
    · exact .str _ _
    · exact .int _ _
    · exact .int _ _
  | made h a n =>
    refine .tup (by simp) fun d hd => ?_
    simp only [List.mem_cons, List.not_mem_nil, or_false] at hd
    rcases hd with rfl | rfl | rfl | rfl
    · exact .str _ _
    · exact .int _ _
    · exact .int _ _
    · exact .int _ _
theorem Thing.pure {t : Thing} (hl : t.refs.length ≤ 1000) : PureV 3 t.v := by
  cases t with
  | box w =>
    refine .tup (by simp) fun d hd => ?_
    simp only [List.mem_cons, List.not_mem_nil, or_false] at hd
    rcases hd with rfl | rfl
    · exact .str _ _
    · exact .int _ _
  | shelf rs =>
    refine .tup (by simp) fun d hd => ?_
    simp only [List.mem_cons, List.not_mem_nil, or_false] at hd
    rcases hd with rfl | rfl
    · exact .str _ _
    · refine .tup (by rw [List.length_map]; exact Nat.le_trans hl (by decide)) fun d hd => ?_
      obtain ⟨r, _, rfl⟩ := List.mem_map.mp hd
      exact r.pure
  | relay r =>
    refine .tup (by simp) fun d hd => ?_
    simp only [List.mem_cons, List.not_mem_nil, or_false] at hd
    rcases hd with rfl | rfl
    · exact .str _ _
    · exact r.pure.le (by decide)
  | maker =>
    refine .tup (by simp) fun d hd => ?_
    simp only [List.mem_cons, List.not_mem_nil, or_false] at hd
    subst hd
    exact .str _ _
  | stone =>
    refine .tup (by simp) fun d hd => ?_
    simp only [List.mem_cons, List.not_mem_nil, or_false] at hd
    subst hd
    exact .str _ _
theorem house_pure {hs : List Thing} (hl : hs.length ≤ 1000) (h : ∀ t ∈ hs, t.refs.length ≤ 1000) : PureV 4 (houseV hs) := .lst (by rw [List.length_map]; omega) fun d hd => by
  obtain ⟨t, ht, rfl⟩ := List.mem_map.mp hd
  exact Thing.pure (h t ht)
theorem refs_ok {ns : List Nat} {t : Thing} (h : t.Ok ns) : t.refs.length ≤ 12 := by
  cases t with
  | shelf rs => exact h.1
  | _ => simp [Thing.refs]
theorem WorldOk.small {ws : Rooms} (h : WorldOk ws) : SmallW ws := ⟨by have := h.most; omega, fun hs hh => by have := h.house hs hh; omega⟩
theorem In.there {ws : Rooms} {r : RefD} (h : In (ws.map List.length) r) : isThere ws r = true := by
  cases r with
  | made a b c => exact h.elim
  | thing a n =>
    obtain ⟨k, h0, h1, h2, h3⟩ := h
    rw [List.getElem?_map] at h1
    cases e : ws[a.toNat]? with
    | none => rw [e] at h1; cases h1
    | some hs =>
      rw [e] at h1
      have e1 : hs.length = k := Option.some.inj h1
      have hl := (List.getElem?_eq_some_iff.mp e).1
      unfold isThere
      simp only [e, Option.getD_some]
      exact decide_eq_true ⟨h0, by omega, h2, by omega⟩
theorem WorldOk.good {ws : Rooms} (h : WorldOk ws) : okWorld ws = true := by
  unfold okWorld
  rw [decide_eq_true h.pos, decide_eq_true h.most, Bool.true_and, Bool.true_and, List.all_eq_true]
  intro hs hh
  unfold isGood
  rw [decide_eq_true (h.house hs hh), Bool.true_and, List.all_eq_true]
  intro t ht
  have ok := h.ok hs hh t ht
  rw [decide_eq_true (refs_ok ok), Bool.true_and, List.all_eq_true]
  intro r hr
  cases t with
  | shelf rs => exact (ok.2 r hr).there
  | relay q =>
    simp only [Thing.refs, List.mem_singleton] at hr
    subst hr
    exact In.there ok
  | box _ => simp [Thing.refs] at hr
  | maker => simp [Thing.refs] at hr
  | stone => simp [Thing.refs] at hr
theorem HsAt.frozen {h : Hh} (ws : Rooms) : HsAt h (roomsV ws) ws := by
  refine ⟨_, .lst _, ?_⟩
  induction ws with
  | nil => exact .nil
  | cons w ws ih => exact .cons (.lst _) ih
/-! LK1 -/


def fs_law_told (cl : Str → Addr) : FS where
  P := Rooms
  pre := fun ws vs h => vs = [worldV cl ws, roomsV ws] ∧ WorldOk ws
  post := fun ws h v h' => v = .bl true ∧ h' = h
theorem c_law_told {cl : Str → Addr} {ws : Rooms} {h : Hh} {E : XQ} {Q : KQ} (a : WorldOk ws) (k : Q (.bl true) h) : (fs_law_told cl).sp [worldV cl ws, roomsV ws] h E Q :=
  ⟨ws, ⟨rfl, a⟩, fun v h' ⟨a, b⟩ => by subst a b; exact k, fun _ _ _ z => z.elim⟩
theorem Seqq.up {h : Hh} {x : Val} {xs : List Val} {a : Addr} {o : Ob} (q : Seqq h x xs) (ha : h a = none) : Seqq (hup h a o) x xs := by
  cases q with
  | lst => exact .lst _
  | scr => exact .scr _
  | ref e => exact .ref (by rw [hup_ne (fun z => by subst z; rw [ha] at e; cases e)]; exact e)
theorem paired_imp {α β : Type} {F G : α → β → Prop} (k : ∀ x y, F x y → G x y) : ∀ {xs : List α} {ys : List β}, Paired F xs ys → Paired G xs ys
  | _, _, .nil => .nil
  | _, _, .cons r t => .cons (k _ _ r) (paired_imp k t)
theorem HsAt.up {h : Hh} {v : Val} {ws : Rooms} {a : Addr} {o : Ob} (q : HsAt h v ws) (ha : h a = none) : HsAt (hup h a o) v ws := by
  obtain ⟨xs, sv, pr⟩ := q
  exact ⟨xs, sv.up ha, paired_imp (fun _ _ z => z.up ha) pr⟩
def r_law_told (cl : Str → Addr) : WS :=
  wSeq (wIf (wTv (wOp wNeS (wCB (cLenO (cl "World") (fs_World___len__ cl)) (wCons (wVar 0) (wNil))) (wCB cLen (wCons (wVar 1) (wNil))))) (wRet (wC (.bl false))) (wNext))
  (wSeq (wFor (wiR1 (wCB cLen (wCons (wVar 1) (wNil)))) (wgName 2)
  (wIf (wNot (wTv (wCall (fs_law_alike 5) [] (wCons (wMeth (cl "World") "house" (fs_World_house cl) [] (wVar 0) (wCons (wVar 2) (wNil))) (wCons (wOp wIx (wVar 1) (wVar 2)) (wNil)))))) (wRet (wC (.bl false))) (wNext)))
  (wRet (wC (.bl true))))

theorem WorldOk.pure {ws : Rooms} (w : WorldOk ws) {hs : List Thing} (h : hs ∈ ws) : PureV 4 (houseV hs) :=
  house_pure (by have := w.house hs h; omega) fun t ht => by have := refs_ok (w.ok hs h t ht); omega
theorem rd_law_told {K : Fr} {cl : Str → Addr} {p : Rooms} {vs h Q} {X : XQ} (gd : Good K Q) (q : (fs_law_told cl).pre p vs h) (hp : ∀ v h', (fs_law_told cl).post p h v h' → Q v h') :
    r_law_told cl (fun _ h' => Q .non h') Q (fun _ _ => False) (fun _ _ => False) (fun C v _ h' => X C v h') (startV ["world", "rooms", "k"] vs) h := by
  obtain ⟨rfl, ok⟩ := q
  have hq : Q (.bl true) h := hp _ _ ⟨rfl, rfl⟩
  clear hp
  show r_law_told _ _ _ _ _ _ [some (.obj (cl "World") [("houses_kept", .lst (List.map houseV p))]), some (.lst (List.map houseV p)), none] h
  unfold r_law_told
  have sm := ok.small
  have hlw := sm.len
  have hlm : (List.map houseV p).length = p.length := List.length_map _
  walk_at "zgo"
  refine c_World_len sm ⟨_, rfl, ⟨by omega, by omega⟩, ?_⟩
  walk_at "zgo"
  rw [List.length_map]
  refine for_inv (fun i ρ h' => h' = h ∧ ∃ x : Option Val, ρ = [some (.obj (cl "World") [("houses_kept", .lst (List.map houseV p))]), some (.lst (List.map houseV p)), x]) ⟨rfl, none, rfl⟩ ?_
  rintro i ρ h' ⟨rfl, x, rfl⟩
  refine ⟨trivial, fun _ => ?_, fun z hz => ?_⟩
  · walk_at "zgo"
    exact hq
  · obtain ⟨hi, rfl⟩ := rng_get hz
    have hi' : i < p.length := by simpa using hi
    have hg : p[i]? = some p[i] := List.getElem?_eq_getElem hi'
    walk_at "zgo"
    refine c_World_house (hs := p[i]) sm (by omega) (by rw [show (0 + (i : Int)).toNat = i by omega]; exact hg) ?_
    walk_at "zgo"
    refine i_ixL (v := houseV p[i]) (atI_nat' (by rw [List.getElem?_map, hg]; rfl)) ?_
    walk_at "zgo"
    refine c_law_alike (PureV.le (ok.pure (List.getElem_mem hi')) (by decide)) ?_
    walk_at "zgo"
    exact ⟨rfl, _, rfl⟩
/-- a world made, kept -/
theorem c_World_mk {cl : Str → Addr} {v : Val} {ws : Rooms} {h : Hh} {E : XQ} {Q : KQ} (hs : HsAt h v ws) (s : SmallW ws) (ok : okWorld ws = true) (k : Q (worldV cl ws) h) : ∀ a, h a = none → (fs_World___init__ cl).sp [.ref a, v] (hup h a (.ins (cl "World") [])) E (fun v h2 => v = .non ∧ MkEnd (cl "World") a h2 Q) := fun a ha => by
  refine c_World_make hup_same (hs.up ha) s ok ⟨rfl, .inr ⟨_, hup_same, ?_⟩⟩
  rw [hup_hup, hdel_hup ha]
  exact k
def r_law_k01 (cl : Str → Addr) : WS :=
  wSeq (wAsg (wCall fs_law_tray [] (wCons (wVar 0) (wNil))) (wgName 1))
  (wSeq (wFor (wiR1 (wOp wAdd (wC (.int 1)) (wCB cLen (wCons (wSl wSlL (wVar 0) (wNoPart) (wPart (wC (.int 8)))) (wNil))))) (wgName 2)
  (wSeq (wAsg (wCall fs_law_world [] (wCons (wVar 1) (wNil))) (wgName 3))
  (wSeq (wAsg (wLc (wiL (wVar 3)) (tg1 4) wYes (wCB cList (wCons (wVar 4) (wNil))) [4]) (wgName 5))
  (wSeq (wAsg (wMake (cl "World") (fs_World___init__ cl) [] (wCons (wVar 5) (wNil))) (wgName 6))
  (wSeq (wIf (wOr (wNot (wTv (wCall (fs_law_told cl) [] (wCons (wVar 6) (wCons (wVar 3) (wNil)))))) (wTv (wOp wNeD (wVar 5) (wVar 3)))) (wRet (wC (.bl false))) (wNext))
  (wSeq (wAsg (wMeth (cl "World") "house" (fs_World_house cl) [] (wVar 6) (wCons (wC (.int 0)) (wNil))) (wgName 7))
  (wSeq (wExpr (wBM "list" mAppend (wVar 7) (wCons (wTup (wCons (wC (.str "stone")) (wNil))) (wNil))))
  (wSeq (wExpr (wBM "list" mAppend (wOp wIx (wVar 5) (wC (.int 0))) (wCons (wTup (wCons (wC (.str "maker")) (wNil))) (wNil))))
  (wSeq (wExpr (wBM "list" mAppend (wVar 5) (wCons (wLst (wNil)) (wNil))))
  (wSeq (wIf (wOr (wNot (wTv (wCall (fs_law_told cl) [] (wCons (wVar 6) (wCons (wVar 3) (wNil)))))) (wTv (wOp wNeD (wVar 7) (wOp wCat (wOp wIx (wVar 3) (wC (.int 0))) (wLst (wCons (wTup (wCons (wC (.str "stone")) (wNil))) (wNil))))))) (wRet (wC (.bl false))) (wNext))
  (wSeq (wAsg (wMakeK (cl "World") (fs_World___init__ cl) 0 1 [(.inr 0)] wNil (wCons (wLc (wiL (wVar 3)) (tg1 4) wYes (wCB cList (wCons (wVar 4) (wNil))) [4]) (wNil))) (wgName 8))
  (wIf (wOr (wNot (wTv (wCall (fs_law_told cl) [] (wCons (wVar 8) (wCons (wVar 3) (wNil)))))) (wNot (wTv (wCB cIsi (wCons (wCB (cLenO (cl "World") (fs_World___len__ cl)) (wCons (wVar 6) (wNil))) (wCons (wC (.ty "int")) (wNil))))))) (wRet (wC (.bl false))) (wNext)))))))))))))
  (wRet (wC (.bl true))))

def rowsK1 : List Str := ["script", "tray", "k", "rooms", "things", "handed", "world", "first", "again"]
theorem rd_law_k01 {cl : Str → Addr} {vs h Q} (q : preL vs h) (hp : ∀ h', Q (.bl true) h') :
    r_law_k01 cl (fun _ h' => Q .non h') Q (fun _ _ => False) (fun _ _ => False) (fun _ _ _ _ => False) (startV ["script", "tray", "k", "rooms", "things", "handed", "world", "first", "again"] vs) h := by
  obtain ⟨ns, rfl, hl, rfl⟩ := q
  show r_law_k01 _ _ _ _ _ _ [some (.scr (ns.map Val.int)), none, none, none, none, none, none, none, none] _
  unfold r_law_k01
  walk_at "zgo"
  refine c_law_tray hl fun t g h0 _ _ T0 kp0 => ?_
  walk_at "zgo"
  refine ⟨_, .scr _, i_newF ?_⟩
  have hcut : (cut (List.map Val.int ns) none (some 8)).length ≤ 8 := by
    unfold cut
    rw [List.length_take]
    have : HT.sIx (List.map Val.int ns).length (List.map Val.int ns).length (some 8) ≤ 8 := by
      simp [HT.sIx]; omega
    omega
  revert hcut
  generalize cut (List.map Val.int ns) none (some 8) = sc8
  intro hcut
  walk_at "zgo"
  refine for_inv (fun i ρ h' => (∃ a b c d e f g : Option Val, ρ = [some (.scr (ns.map Val.int)), some (.ref t), a, b, c, d, e, f, g]) ∧ Tray h' t g (0 + 2500 * i) ∧ i ≤ 10) ⟨⟨_, _, _, _, _, _, _, rfl⟩, T0.more (by omega), by omega⟩ ?_
  rintro i ρ h1 ⟨⟨v1, v2, v3, v4, v5, v6, v7, rfl⟩, T1, hi⟩
  refine ⟨trivial, fun _ => ?_, fun z hz => ?_⟩
  · walk_at "zgo"
    exact hp _
  obtain ⟨hi', rfl⟩ := rng_get hz
  have hi2 : i < 9 := by omega
  walk_at "zgo"
  refine c_law_world T1 (by omega) fun ws h2 ok T2 kp2 => ?_
  rw [show roomsV ws = .lst (List.map houseV ws) from rfl]
  walk_at "zgo"
  obtain ⟨w0, wr, rfl⟩ : ∃ w0 wr, ws = w0 :: wr := by
    cases ws with
    | nil => have := ok.pos; simp at this
    | cons w0 wr => exact ⟨w0, wr, rfl⟩
  have sm := ok.small
  have lr : wr.length ≤ 8 := by have := ok.most; simp at this; omega
  have l0 : w0.length ≤ 12 := ok.house w0 (by simp)
  refine lc_inv (fun i acc h' => (i = 0 ∧ acc = [] ∧ h' = h2) ∨ ∃ a j, i = j + 1 ∧ h2 a = none ∧ h' = hup h2 a (.lst (w0.map Thing.v)) ∧ j ≤ wr.length ∧ acc = .ref a :: (wr.take j).map houseV) (.inl ⟨rfl, rfl, rfl⟩) ?_
  rintro m acc h3 hI
  refine ⟨trivial, fun hm => ?_, fun z hz2 => ?_⟩
  rotate_left
  · rcases hI with ⟨rfl, rfl, rfl⟩ | ⟨a, j, rfl, ha, rfl, hj, rfl⟩
    · simp at hz2
      subst hz2
      unfold houseV
      walk_at "zgo"
      exact i_newO fun a ha => ⟨by simp, .inr ⟨a, 0, rfl, ha, rfl, by simp, by simp⟩⟩
    · obtain ⟨hs, hs2, rfl⟩ := map_get hz2
      simp at hs2
      have hjl := (List.getElem?_eq_some_iff.mp hs2).1
      unfold houseV
      walk_at "zgo"
      refine i_newF ⟨by simp; omega, .inr ⟨a, j + 1, rfl, ha, rfl, by omega, ?_⟩⟩
      rw [List.take_succ, hs2, List.map_append]
      rfl
  rcases hI with ⟨rfl, rfl, rfl⟩ | ⟨a, j, rfl, ha, rfl, hj, rfl⟩
  · simp at hm
  have hj2 : j = wr.length := by simp at hm; omega
  subst hj2
  rw [List.take_length]
  have hat : a ≠ t := fun e => by subst e; obtain ⟨_, _, _, _, _, q, _⟩ := T2; rw [ha] at q; cases q
  have hag : a ≠ g := fun e => by subst e; obtain ⟨_, _, _, _, _, _, q, _⟩ := T2; rw [ha] at q; cases q
  refine i_newO fun b hb => ?_
  have hba : b ≠ a := fun e => by subst e; rw [hup_same] at hb; cases hb
  rw [hup_ne hba] at hb
  have hbt : b ≠ t := fun e => by subst e; obtain ⟨_, _, _, _, _, q, _⟩ := T2; rw [hb] at q; cases q
  have hbg : b ≠ g := fun e => by subst e; obtain ⟨_, _, _, _, _, _, q, _⟩ := T2; rw [hb] at q; cases q
  walk_at "zgo"
  have hsat : HsAt (hup (hup h2 a (.lst (w0.map Thing.v))) b (.lst (.ref a :: wr.map houseV))) (.ref b) (w0 :: wr) := by
    refine ⟨_, .ref hup_same, .cons (.ref (by rw [hup_ne hba.symm, hup_same])) ?_⟩
    obtain ⟨_, q1, q2⟩ := HsAt.frozen (h := hup (hup h2 a (.lst (w0.map Thing.v))) b (.lst (.ref a :: wr.map houseV))) wr
    cases q1 with
    | lst => exact q2
  refine c_World_mk hsat sm ok.good ?_
  walk_at "zgo"
  refine c_law_told ok ?_
  walk_at "zgo"
  have dva : Dvs (hup (hup h2 a (.lst (w0.map Thing.v))) b (.lst (.ref a :: wr.map houseV))) (.ref a :: wr.map houseV) ((w0 :: wr).map houseD) :=
    .cons (.ref (by rw [hup_ne hba.symm, hup_same]) (dvs_map Thing.dv w0)) (dvs_map houseV_dv wr)
  refine ne_same (d := roomsD (w0 :: wr)) (.ref hup_same dva) (roomsV_dv _) (rooms_lay _) (by decide) ?_
  walk_at "zgo"
  refine c_World_houseO (n := 0) (hs := w0) sm (by decide) rfl fun c hc => ?_
  have hcb : c ≠ b := fun e => by subst e; rw [hup_same] at hc; cases hc
  rw [hup_ne hcb] at hc
  have hca : c ≠ a := fun e => by subst e; rw [hup_same] at hc; cases hc
  rw [hup_ne hca] at hc
  have hct : c ≠ t := fun e => by subst e; obtain ⟨_, _, _, _, _, q, _⟩ := T2; rw [hc] at q; cases q
  have hcg : c ≠ g := fun e => by subst e; obtain ⟨_, _, _, _, _, _, q, _⟩ := T2; rw [hc] at q; cases q
  walk_at "zgo"
  walk_at "zgo"
  refine i_append hup_same (by rw [List.length_map]; omega) ?_
  rw [hup_hup]
  walk_at "zgo"
  refine i_append (by walk_at "hlk") (by rw [List.length_map]; omega) ?_
  walk_at "zgo"
  refine i_newF ?_
  walk_at "zgo"
  refine i_append (by walk_at "hlk") (by simp; omega) ?_
  walk_at "zgo"
  refine c_law_told ok ?_
  walk_at "zgo"
  have e1 : w0.map Thing.v ++ [.tup [.str "stone"]] = (w0 ++ [Thing.stone]).map Thing.v := by simp [Thing.v]
  rw [e1]
  refine i_newF ⟨_, _, .lst _, .lst _, by unfold small; simp; omega, i_newF ?_⟩
  rw [e1]
  refine ne_same (d := houseD (w0 ++ [Thing.stone])) (.ref (by walk_at "hlk") (dvs_map Thing.dv _)) (houseV_dv _) (house_lay _) (by decide) ?_
  walk_at "zgo"
  refine lc_map (f := fun x => x) (by simp; omega) trivial (fun x hx => ?_) tg1_mono ?_
  · obtain ⟨hs, _, rfl⟩ := List.mem_map.mp hx
    unfold houseV
    walk_at "zgo"
    intro Q hQ
    walk_at "zgo"
    exact i_newF hQ
  rw [List.map_id']
  refine i_newF ?_
  walk_at "zgo"
  refine c_World_mk (v := roomsV (w0 :: wr)) (HsAt.frozen _) sm ok.good ?_
  walk_at "zgo"
  refine c_law_told ok ?_
  walk_at "zgo"
  refine c_World_len sm ⟨_, rfl, ⟨by omega, by simp; omega⟩, ?_⟩
  walk_at "zgo"
  refine ⟨⟨_, _, _, _, _, _, _, rfl⟩, ?_, by omega⟩
  obtain ⟨ne, gs, a1, fold, cc, ht, hg, r⟩ := T2.more (m := 0 + 2500 * ((i + 1 : Nat) : Int)) (by omega)
  exact ⟨ne, gs, a1, fold, cc, by simp only [hup_ne hbt.symm, hup_ne hat.symm, hup_ne hct.symm, ht], by simp only [hup_ne hbg.symm, hup_ne hag.symm, hup_ne hcg.symm, hg], r⟩
/-! LW1 -/
/-! the steps: one macro -/
local macro_rules | `(tactic| walk_at "hlk") => `(tactic| first | assumption | with_reducible exact hup_same | ((with_reducible refine' (hup_ne ?nn).trans ?tt); (case nn => first | assumption | (refine Ne.symm ?_; assumption)); (case tt => walk_at "hlk")))
local macro_rules | `(tactic| walk_at "zgo") => `(tactic| repeat (first
  | with_reducible refine i_seq ?_
  | with_reducible refine i_op ?_
  | ((with_reducible refine g_var ?_); first
    | with_reducible refine i_var0 ?_
    | with_reducible refine i_var1 ?_
    | with_reducible refine i_var2 ?_
    | with_reducible refine i_var3 ?_
    | with_reducible refine i_var4 ?_
    | with_reducible refine i_var5 ?_
    | with_reducible refine i_var6 ?_
    | with_reducible refine i_var7 ?_
    | with_reducible refine i_var8 ?_
    | with_reducible refine i_var9 ?_
    | with_reducible refine i_var10 ?_
    | with_reducible refine i_var11 ?_
    | with_reducible refine i_var12 ?_
    | with_reducible refine i_var13 ?_
    | with_reducible refine i_var14 ?_
    | with_reducible refine i_var15 ?_
    | with_reducible refine i_var16 ?_
    | with_reducible refine i_var17 ?_
    | with_reducible refine i_var18 ?_
    | with_reducible refine i_var19 ?_
    | with_reducible refine i_var20 ?_
    | with_reducible refine i_var21 ?_
    | with_reducible refine i_var22 ?_
    | with_reducible refine i_var23 ?_
    | with_reducible refine i_var24 ?_
    | with_reducible refine i_var25 ?_)
  | with_reducible refine i_c ?_
  | with_reducible refine i_cons ?_
  | with_reducible refine i_nil ?_
  | with_reducible refine i_asg ?_
  | ((with_reducible refine g_name ?_); first
    | with_reducible refine i_name0 ?_
    | with_reducible refine i_name1 ?_
    | with_reducible refine i_name2 ?_
    | with_reducible refine i_name3 ?_
    | with_reducible refine i_name4 ?_
    | with_reducible refine i_name5 ?_
    | with_reducible refine i_name6 ?_
    | with_reducible refine i_name7 ?_
    | with_reducible refine i_name8 ?_
    | with_reducible refine i_name9 ?_
    | with_reducible refine i_name10 ?_
    | with_reducible refine i_name11 ?_
    | with_reducible refine i_name12 ?_
    | with_reducible refine i_name13 ?_
    | with_reducible refine i_name14 ?_
    | with_reducible refine i_name15 ?_
    | with_reducible refine i_name16 ?_
    | with_reducible refine i_name17 ?_
    | with_reducible refine i_name18 ?_
    | with_reducible refine i_name19 ?_
    | with_reducible refine i_name20 ?_
    | with_reducible refine i_name21 ?_
    | with_reducible refine i_name22 ?_
    | with_reducible refine i_name23 ?_
    | with_reducible refine i_name24 ?_
    | with_reducible refine i_name25 ?_)
  | ((with_reducible refine g_tg1 ?_); first
    | with_reducible refine i_tg1_0 ?_
    | with_reducible refine i_tg1_1 ?_
    | with_reducible refine i_tg1_2 ?_
    | with_reducible refine i_tg1_3 ?_
    | with_reducible refine i_tg1_4 ?_
    | with_reducible refine i_tg1_5 ?_
    | with_reducible refine i_tg1_6 ?_
    | with_reducible refine i_tg1_7 ?_
    | with_reducible refine i_tg1_8 ?_
    | with_reducible refine i_tg1_9 ?_
    | with_reducible refine i_tg1_10 ?_
    | with_reducible refine i_tg1_11 ?_
    | with_reducible refine i_tg1_12 ?_
    | with_reducible refine i_tg1_13 ?_
    | with_reducible refine i_tg1_14 ?_
    | with_reducible refine i_tg1_15 ?_
    | with_reducible refine i_tg1_16 ?_
    | with_reducible refine i_tg1_17 ?_
    | with_reducible refine i_tg1_18 ?_
    | with_reducible refine i_tg1_19 ?_
    | with_reducible refine i_tg1_20 ?_
    | with_reducible refine i_tg1_21 ?_
    | with_reducible refine i_tg1_22 ?_
    | with_reducible refine i_tg1_23 ?_)
  | with_reducible refine i_yes ?_
  | with_reducible refine i_if ?_
  | with_reducible refine i_tv ?_
  | with_reducible refine i_bl ?_
  | with_reducible refine i_blV ?_
  | ((with_reducible refine g_if ?_); first
    | with_reducible refine iteT ?_
    | with_reducible refine iteF ?_
    | ((with_reducible refine' i_ifdt ?cc ?_); (case cc => first | decide | omega | assumption | decide +kernel))
    | ((with_reducible refine' i_ifdf ?cc ?_); (case cc => first | decide | omega | assumption | decide +kernel))
    | ((with_reducible refine' i_ifnt ?cc ?_); (case cc => first | decide | omega | assumption | decide +kernel))
    | ((with_reducible refine' i_ifnf ?cc ?_); (case cc => first | decide | omega | assumption | decide +kernel))
    | ((with_reducible refine' i_ift ?cc ?_); (case cc => first | assumption | rfl))
    | ((with_reducible refine' i_iff ?cc ?_); (case cc => first | assumption | rfl)))
  | with_reducible refine i_eqT ?_
  | with_reducible refine i_neT ?_
  | with_reducible refine i_eqI ?_
  | with_reducible refine i_neI ?_
  | with_reducible refine i_eqB ?_
  | with_reducible refine i_neB ?_
  | with_reducible refine i_lt ?_
  | with_reducible refine i_le ?_
  | with_reducible refine i_gt ?_
  | with_reducible refine i_ge ?_
  | with_reducible refine i_add ?_
  | with_reducible refine i_sub ?_
  | with_reducible refine i_and ?_
  | with_reducible refine i_or ?_
  | with_reducible refine i_not ?_
  | with_reducible refine i_andV ?_
  | with_reducible refine i_orV ?_
  | with_reducible refine i_notV ?_
  | with_reducible refine i_ifE ?_
  | with_reducible refine i_isN ?_
  | with_reducible refine i_notN ?_
  | with_reducible refine i_un ?_
  | with_reducible refine i_int1 ?_
  | with_reducible refine i_tup ?_
  | with_reducible refine i_lst ?_
  | ((with_reducible refine' i_small ?ss ?_); (case ss => first | decide | (simp only [List.length_cons, List.length_nil, List.length_map, List.length_append]; omega)))
  | with_reducible refine i_cb ?_
  | with_reducible refine i_call0 ?_
  | with_reducible refine i_call ?_
  | with_reducible refine i_meth0 ?_
  | with_reducible refine i_make0 ?_
  | with_reducible refine i_fld ?_
  | ((with_reducible refine' i_fldO ?ll ?_); (case ll => repeat (first | exact lk_hd | exact lk_nil | (refine lk_tl (by decide +kernel) ?_))))
  | ((with_reducible refine' i_fldR ?ee ?ll ?_); (case ee => walk_at "hlk"); (case ll => repeat (first | exact lk_hd | exact lk_nil | (refine lk_tl (by decide +kernel) ?_))))
  | ((with_reducible refine' i_mO ?ll ?_); (case ll => repeat (first | exact lk_hd | exact lk_nil | (refine lk_tl (by decide +kernel) ?_))))
  | ((with_reducible refine' i_mR ?ee ?ll ?_); (case ee => walk_at "hlk"); (case ll => repeat (first | exact lk_hd | exact lk_nil | (refine lk_tl (by decide +kernel) ?_))))
  | ((with_reducible refine' i_ixT ?at_ ?_); (case at_ => first | exact rfl | exact L2.atI_nat (j := 0) rfl | exact L2.atI_nat (j := 1) rfl))
  | ((with_reducible refine' i_ixL ?at_ ?_); (case at_ => first | exact rfl | exact L2.atI_nat (j := 0) rfl | exact L2.atI_nat (j := 1) rfl))
  | ((with_reducible refine' i_ixR ?hh ?at_ ?_); (case hh => walk_at "hlk"); (case at_ => first | exact rfl | exact L2.atI_nat (j := 0) rfl | exact L2.atI_nat (j := 1) rfl))
  | with_reducible refine i_fldS ?_
  | with_reducible refine i_bm ?_
  | ((with_reducible refine' i_tyL ?hh ?_); (case hh => walk_at "hlk"))
  | ((with_reducible refine' i_l2 ?xx ?yy ?_); (case xx => exact rfl); (case yy => exact rfl))
  | with_reducible refine i_callK ?_
  | with_reducible refine i_makeK ?_
  | with_reducible refine i_chain ?_
  | with_reducible refine i_raise ?_
  | with_reducible refine i_atx ?_
  | with_reducible refine i_lenO ?_
  | with_reducible refine i_sub_ ?_
  | with_reducible refine i_expr ?_
  | with_reducible refine i_ret ?_
  | with_reducible refine i_next ?_
  | with_reducible refine i_lc ?_
  | with_reducible refine i_r1 ?_
  | with_reducible refine i_iL ?_
  | with_reducible refine i_iT ?_
  | with_reducible refine i_itsF ?_
  | with_reducible refine i_itsS ?_
  | with_reducible refine i_itsT ?_
  | ((with_reducible refine' i_itsR ?hh ?_); (case hh => walk_at "hlk"))
  | with_reducible refine i_lenF ?_
  | with_reducible refine i_lenT ?_
  | ((with_reducible refine' i_lenR ?hh ?_); (case hh => walk_at "hlk"))
  | with_reducible refine i_listF ?_
  | with_reducible refine i_listT ?_
  | ((with_reducible refine' i_listR ?hh ?_); (case hh => walk_at "hlk"))
  | with_reducible refine i_tupF ?_
  | ((with_reducible refine' i_lenOR ?hh ?_); (case hh => walk_at "hlk"))
  | ((with_reducible refine' i_tupR ?hh ?_); (case hh => walk_at "hlk"))
  | ((with_reducible refine g_isi ?_); first
    | with_reducible refine i_isi_non_bool ?_
    | with_reducible refine i_isi_non_int ?_
    | with_reducible refine i_isi_non_str ?_
    | with_reducible refine i_isi_non_list ?_
    | with_reducible refine i_isi_non_tuple ?_
    | with_reducible refine i_isi_bl_bool ?_
    | with_reducible refine i_isi_bl_int ?_
    | with_reducible refine i_isi_bl_str ?_
    | with_reducible refine i_isi_bl_list ?_
    | with_reducible refine i_isi_bl_tuple ?_
    | with_reducible refine i_isi_int_bool ?_
    | with_reducible refine i_isi_int_int ?_
    | with_reducible refine i_isi_int_str ?_
    | with_reducible refine i_isi_int_list ?_
    | with_reducible refine i_isi_int_tuple ?_
    | with_reducible refine i_isi_str_bool ?_
    | with_reducible refine i_isi_str_int ?_
    | with_reducible refine i_isi_str_str ?_
    | with_reducible refine i_isi_str_list ?_
    | with_reducible refine i_isi_str_tuple ?_
    | with_reducible refine i_isi_tup_bool ?_
    | with_reducible refine i_isi_tup_int ?_
    | with_reducible refine i_isi_tup_str ?_
    | with_reducible refine i_isi_tup_list ?_
    | with_reducible refine i_isi_tup_tuple ?_
    | with_reducible refine i_isi_lst_bool ?_
    | with_reducible refine i_isi_lst_int ?_
    | with_reducible refine i_isi_lst_str ?_
    | with_reducible refine i_isi_lst_list ?_
    | with_reducible refine i_isi_lst_tuple ?_)
  | with_reducible refine i_max ?_
  | with_reducible refine i_min ?_
  | with_reducible refine i_rgin ?_
  | with_reducible refine i_tabin ?_
  | with_reducible refine i_disp ?_
  | with_reducible refine i_pcons ?_
  | with_reducible refine i_pnil ?_
  | with_reducible refine i_dget ?_
  | with_reducible refine i_din ?_
  | with_reducible refine i_dput ?_
  | ((with_reducible refine' i_wgtup ?nn ?_); (case nn => exact rfl))
  | ((with_reducible refine' i_rngB ?aa ?bb ?_); (case aa => first | decide | omega); (case bb => first | decide | omega))
  | with_reducible refine i_for ?_
  | with_reducible refine i_while ?_
  | with_reducible refine i_wgcons ?_
  | with_reducible refine i_wgnil ?_
  | with_reducible refine i_wslL ?_
  | with_reducible refine i_nopart ?_
  | with_reducible refine i_part ?_
  | ((with_reducible refine' i_wgunl ?nn ?_); (case nn => exact rfl))
  | ((with_reducible refine' i_xf ?ee ?_); (case ee => exact rfl))
  | ((with_reducible refine' i_errIs ?ee ?_); (case ee => exact rfl))
  | with_reducible refine i_bm0 ?_
  | with_reducible refine i_intB ?_
  | with_reducible refine i_intI ?_
  ))

/-! ### worlds whose houses are owned -/
def thV (hs : List Thing) : List Val := hs.map Thing.v
abbrev thsV (ws : Rooms) : List (List Val) := ws.map thV
/-- but the tray and what is new -/
structure KeepN (t g : Addr) (L : List Addr) (h h' : Hh) : Prop where
  old : ∀ b, b ≠ t → b ≠ g → b ∉ L → h' b = h b
  new : ∀ b ∈ L, h b = none
def fs_law_world_v1 : FS where
  P := Addr × Addr × Int × Bool
  pre := fun (t, g, n, o) vs h => vs = [.ref t] ∧ Tray h t g n ∧ n ≤ 1000000000000
  post := fun (t, g, n, o) h v h' => ∃ ws : Rooms, WorldOk ws ∧ Tray h' t g (n + 2500) ∧ if o then ∃ a bs, v = .ref a ∧ Nest h' a bs (thsV ws) ∧ KeepN t g (a :: bs) h h' else v = roomsV ws ∧ Keep t g h h'
theorem c_law_world_v1 {t g : Addr} {n : Int} {h : Hh} {E : XQ} {Q : KQ} (T : Tray h t g n) (hn : n ≤ 1000000000000) (k : ∀ (ws : Rooms) h', WorldOk ws → Tray h' t g (n + 2500) → Keep t g h h' → Q (roomsV ws) h') : fs_law_world_v1.sp [.ref t] h E Q :=
  ⟨(t, g, n, false), ⟨rfl, T, hn⟩, fun v h' ⟨ws, a, b, c⟩ => by
    obtain ⟨rfl, c⟩ := c
    exact k ws h' a b c, fun _ _ _ z => z.elim⟩
theorem c_law_world_o {t g : Addr} {n : Int} {h : Hh} {E : XQ} {Q : KQ} (T : Tray h t g n) (hn : n ≤ 1000000000000) (k : ∀ (ws : Rooms) a bs h', WorldOk ws → Tray h' t g (n + 2500) → Nest h' a bs (thsV ws) → KeepN t g (a :: bs) h h' → Q (.ref a) h') : fs_law_world_v1.sp [.ref t] h E Q :=
  ⟨(t, g, n, true), ⟨rfl, T, hn⟩, fun v h' ⟨ws, a, b, c⟩ => by
    obtain ⟨p, bs, rfl, c, d⟩ := c
    exact k ws p bs h' a b c d, fun _ _ _ z => z.elim⟩
/-- a list of lists of things, told in the heap: no script -/
def HsL (h : Hh) (v : Val) (ws : Rooms) : Prop := ∃ xs, Lsq h v xs ∧ Paired (fun x hs => Lsq h x (hs.map Thing.v)) xs ws
def fs_law_told_v1 (cl : Str → Addr) : FS where
  P := Rooms × Val
  pre := fun (ws, x) vs h => vs = [worldV cl ws, x] ∧ HsL h x ws ∧ SmallW ws ∧ ∀ hs ∈ ws, PureV 4 (houseV hs)
  post := fun _ h v h' => v = .bl true ∧ h' = h
theorem c_law_told_v1 {cl : Str → Addr} {ws : Rooms} {x : Val} {h : Hh} {E : XQ} {Q : KQ} (a : HsL h x ws) (s : SmallW ws) (p : ∀ hs ∈ ws, PureV 4 (houseV hs)) (k : Q (.bl true) h) : (fs_law_told_v1 cl).sp [worldV cl ws, x] h E Q :=
  ⟨(ws, x), ⟨rfl, a, s, p⟩, fun v h' ⟨a, b⟩ => by subst a b; exact k, fun _ _ _ z => z.elim⟩
def r_law_world_v1 : WS :=
  wSeq (wAsg (wCall fs_law_sizes [] (wCons (wVar 0) (wNil))) (wgName 1))
  (wSeq (wAsg (wLst (wNil)) (wgName 2))
  (wSeq (wFor (wiL (wVar 1)) (wgName 3)
  (wExpr (wBM "list" mAppend (wVar 2) (wCons (wLc (wiR1 (wVar 3)) (tg1 4) wYes (wCall fs_law_thing [] (wCons (wVar 0) (wCons (wVar 1) (wNil)))) [4]) (wNil)))))
  (wRet (wVar 2))))

def r_law_told_v1 (cl : Str → Addr) : WS :=
  wSeq (wIf (wTv (wOp wNeS (wCB (cLenO (cl "World") (fs_World___len__ cl)) (wCons (wVar 0) (wNil))) (wCB cLen (wCons (wVar 1) (wNil))))) (wRet (wC (.bl false))) (wNext))
  (wSeq (wFor (wiR1 (wCB cLen (wCons (wVar 1) (wNil)))) (wgName 2)
  (wIf (wNot (wTv (wCall (fs_law_alike 5) [] (wCons (wMeth (cl "World") "house" (fs_World_house cl) [] (wVar 0) (wCons (wVar 2) (wNil))) (wCons (wOp wIx (wVar 1) (wVar 2)) (wNil)))))) (wRet (wC (.bl false))) (wNext)))
  (wRet (wC (.bl true))))

theorem Tray.hup {h : Hh} {t g a : Addr} {n : Int} {o : Ob} (T : Tray h t g n) (at' : a ≠ t) (ag : a ≠ g) : Tray (hup h a o) t g n := by
  obtain ⟨ne, gs, b, fold, c, ht, hg, r⟩ := T
  exact ⟨ne, gs, b, fold, c, by rw [hup_ne at'.symm]; exact ht, by rw [hup_ne ag.symm]; exact hg, r⟩
theorem Tray.new {h : Hh} {t g a : Addr} {n : Int} (T : Tray h t g n) (ha : h a = none) : a ≠ t ∧ a ≠ g := by
  obtain ⟨ne, gs, b, fold, c, ht, hg, r⟩ := T
  exact ⟨fun z => (by subst z; rw [ht] at ha; cases ha), fun z => (by subst z; rw [hg] at ha; cases ha)⟩
theorem Tray.same {h h' : Hh} {t g : Addr} {n : Int} (T : Tray h t g n) (e1 : h' t = h t) (e2 : h' g = h g) : Tray h' t g n := by
  obtain ⟨ne, gs, b, fold, c, ht, hg, r⟩ := T
  exact ⟨ne, gs, b, fold, c, by rw [e1]; exact ht, by rw [e2]; exact hg, r⟩
theorem rd_law_world_v1 {K : Fr} {p vs h Q} {X : XQ} (gd : Good K Q) (q : fs_law_world_v1.pre p vs h) (hp : ∀ v h', fs_law_world_v1.post p h v h' → Q v h') :
    r_law_world_v1 (fun _ h' => Q .non h') Q (fun _ _ => False) (fun _ _ => False) (fun C v _ h' => X C v h') (startV ["tray", "sizes", "houses", "size", "k"] vs) h := by
  obtain ⟨t, g, n, o⟩ := p
  obtain ⟨rfl, T, hn⟩ := q
  have fin : ∀ (ws : Rooms) a bs h', WorldOk ws → Tray h' t g (n + 2500) → Nest h' a bs (thsV ws) → KeepN t g (a :: bs) h h' → Q (.ref a) h' := fun ws a bs h' ok T1 N kn => by
    cases o with
    | true => exact hp _ _ ⟨ws, ok, T1, a, bs, rfl, N, kn⟩
    | false =>
      refine gd.nest N ?_
      have e : (thsV ws).map Val.lst = ws.map houseV := by simp [thsV, thV, houseV]
      rw [e]
      have nt : t ∉ a :: bs := fun z => by
        obtain ⟨ne, gs, b, fold, c, ht, hg, r⟩ := T
        have := kn.new t z
        rw [ht] at this; cases this
      have ng : g ∉ a :: bs := fun z => by
        obtain ⟨ne, gs, b, fold, c, ht, hg, r⟩ := T
        have := kn.new g z
        rw [hg] at this; cases this
      refine hp _ _ ⟨ws, ok, T1.same (hdelL_out nt) (hdelL_out ng), rfl, fun b b1 b2 => ?_⟩
      by_cases hb : b ∈ a :: bs
      · rw [hdelL_in hb, kn.new b hb]
      · rw [hdelL_out hb, kn.old b b1 b2 hb]
  show r_law_world_v1 _ _ _ _ _ [some (.ref t), none, none, none, none] h
  unfold r_law_world_v1
  walk_at "zgo"
  refine c_law_sizes T (by omega) fun ns h1 n1 n8 nb T1 kp1 => ?_
  have hsum := sum_le nb
  walk_at "zgo"
  refine i_newO fun rr hr => ?_
  walk_at "zgo"
  obtain ⟨rt, rg⟩ := T1.new hr
  refine for_inv (fun i ρ h' => ∃ (ws : Rooms) (bs : List Addr) (x y : Option Val), ρ = [some (.ref t), some (.lst (natsV ns)), some (.ref rr), x, y] ∧ Nest h' rr bs (thsV ws) ∧ ws.map List.length = ns.take i ∧ i ≤ ns.length ∧ (∀ hs ∈ ws, ∀ th ∈ hs, th.Ok ns) ∧ Tray h' t g (n + 10 + 250 * i) ∧ KeepN t g (rr :: bs) h h')
    ⟨[], [], none, none, rfl, ⟨hup_same, rfl, fun i b xs e => by simp at e, by simp⟩, by simp, by simp, by simp, (T1.hup rt rg).more (by omega), fun b b1 b2 b3 => by rw [hup_ne (by simpa using b3)]; exact kp1 b b1 b2, fun b hb => by simp at hb; subst hb; rw [← kp1 b rt rg]; exact hr⟩ ?_
  rintro i ρ h' ⟨ws, bs, x, y, rfl, N, hl, hi, ok, T3, kp3⟩
  refine ⟨trivial, fun hi2 => ?_, fun z hz => ?_⟩
  · have hi3 : i = ns.length := by simp [natsV] at hi2; omega
    subst hi3
    rw [List.take_length] at hl
    walk_at "zgo"
    refine fin ws rr bs h' ?_ (T3.more (by omega)) N kp3
    have hwl : ws.length = ns.length := by rw [← hl, List.length_map]
    refine ⟨by omega, by omega, fun hs hh => ?_, fun hs hh th hth => by rw [hl]; exact ok hs hh th hth⟩
    have : hs.length ∈ ws.map List.length := List.mem_map.mpr ⟨hs, hh, rfl⟩
    rw [hl] at this
    exact nb _ this
  · obtain ⟨k, hk, rfl⟩ := map_get hz
    have hk12 : k ≤ 12 := nb k (List.mem_of_getElem? hk)
    have hil : i < ns.length := (List.getElem?_eq_some_iff.mp hk).1
    have ntop := N.top
    walk_at "zgo"
    refine lc_inv (fun j acc h4 => j ≤ k ∧ (∃ hs : List Thing, acc = hs.map Thing.v ∧ hs.length = j ∧ ∀ th ∈ hs, th.Ok ns) ∧ Tray h4 t g (n + 10 + 250 * i + 20 * j) ∧ Keep t g h' h4) ⟨Nat.zero_le _, ⟨[], rfl, rfl, by simp⟩, T3.more (by omega), Keep.refl⟩ ?_
    rintro j acc h4 ⟨hj, ⟨hs, rfl, hl2, hb⟩, T4, kp4⟩
    refine ⟨trivial, fun hj2 => ?_, fun x hx => ?_⟩
    · rw [rng_len] at hj2
      have hjk : j = k := by omega
      subst hjk
      have nt : ∀ c ∈ rr :: bs, c ≠ t ∧ c ≠ g := fun c hc => by
        obtain ⟨ne, gs, b, fold, cc, ht, hg, r⟩ := T
        have := kp3.new c hc
        exact ⟨fun z => (by subst z; rw [ht] at this; cases this), fun z => (by subst z; rw [hg] at this; cases this)⟩
      have N4 : Nest h4 rr bs (thsV ws) := N.keep fun c hc => kp4 c (nt c hc).1 (nt c hc).2
      refine i_newO fun nb hnb => ?_
      obtain ⟨n1, n2⟩ := T4.new hnb
      have n3 : nb ≠ rr := fun z => N4.fresh hnb (by rw [z]; simp)
      walk_at "zgo"
      refine i_append (by rw [hup_ne n3.symm]; exact N4.top) (by rw [List.length_map, N.len, List.length_map]; have := congrArg List.length hl; simp at this ⊢; omega) ?_
      have N5 := N4.app (xs := hs.map Thing.v) hnb
      refine ⟨ws ++ [hs], bs ++ [nb], _, _, rfl, by simpa [thsV, thV] using N5, ?_, by omega, ?_, ?_, fun b b1 b2 b3 => ?_, fun b hb => ?_⟩
      · rw [List.map_append, hl, List.take_succ, hk, ← hl2]; rfl
      · intro hs2 hh th hth
        rcases List.mem_append.mp hh with hh | hh
        · exact ok hs2 hh th hth
        · simp at hh; subst hh; exact hb th hth
      · exact ((T4.hup n1 n2).hup (nt rr (by simp)).1 (nt rr (by simp)).2).more (by omega)
      · have b4 : b ≠ nb := fun z => b3 (by simp [z])
        have b5 : b ≠ rr := fun z => b3 (by simp [z])
        rw [hup_ne b5, hup_ne b4, kp4 b b1 b2]
        exact kp3.old b b1 b2 fun z => b3 (by simp at z ⊢; rcases z with z | z; exact .inl z; exact .inr (.inl z))
      · by_cases hb2 : b ∈ rr :: bs
        · exact kp3.new b hb2
        · have e : b = nb := by simp at hb hb2; rcases hb with hb | hb | hb; exact absurd hb hb2.1; exact absurd hb hb2.2; exact hb
          subst e
          rw [← kp3.old b n1 n2 hb2, ← kp4 b n1 n2]
          exact hnb
    · obtain ⟨hj3, rfl⟩ := rng_get hx
      walk_at "zgo"
      refine c_law_thing T4 (by omega) (sum_pos (List.mem_of_getElem? hk) (by omega)) (by omega) fun th h5 hth T5 kp5 => ?_
      refine ⟨by simp; omega, by omega, ⟨hs ++ [th], by simp, by simp [hl2], fun u hu => ?_⟩, T5.more (by omega), kp4.trans kp5⟩
      rcases List.mem_append.mp hu with hu | hu
      · exact hb u hu
      · simp at hu; subst hu; exact hth
theorem seqq_ref {h : Hh} {x : Val} {xs : List Val} (q : Seqq h x xs) : x = .lst xs ∨ x = .scr xs ∨ ∃ a, x = .ref a ∧ h a = some (.lst xs) := by
  cases q with
  | lst => exact .inl rfl
  | scr => exact .inr (.inl rfl)
  | ref e => exact .inr (.inr ⟨_, rfl, e⟩)
theorem Lsq.seqq {h : Hh} {x : Val} {xs : List Val} (q : Lsq h x xs) : Seqq h x xs := by
  cases q with
  | lst => exact .lst _
  | ref e => exact .ref e
theorem HsL.at {h : Hh} {v : Val} {ws : Rooms} (q : HsL h v ws) : HsAt h v ws := by
  obtain ⟨xs, a, b⟩ := q
  exact ⟨xs, a.seqq, paired_imp (fun _ _ z => z.seqq) b⟩
theorem paired_len {α β : Type} {P : α → β → Prop} : ∀ {xs : List α} {ys : List β}, Paired P xs ys → xs.length = ys.length
  | _, _, .nil => rfl
  | _, _, .cons _ r => by simp [paired_len r]
theorem c_law_alike_lsq {d : Nat} {y : Val} {xs : List Val} {h : Hh} {E : XQ} {Q : KQ} (p : PureV d (.lst xs)) (e : Lsq h y xs) (k : Q (.bl true) h) : (fs_law_alike (d + 1)).sp [.lst xs, y] h E Q := by
  cases e with
  | lst => exact c_law_alike p k
  | ref e => exact c_law_alike_ref p e k
theorem rd_law_told_v1 {K : Fr} {cl : Str → Addr} {p : Rooms × Val} {vs h Q} {X : XQ} (gd : Good K Q) (q : (fs_law_told_v1 cl).pre p vs h) (hp : ∀ v h', (fs_law_told_v1 cl).post p h v h' → Q v h') :
    r_law_told_v1 cl (fun _ h' => Q .non h') Q (fun _ _ => False) (fun _ _ => False) (fun C v _ h' => X C v h') (startV ["world", "houses", "k"] vs) h := by
  obtain ⟨p, x⟩ := p
  obtain ⟨rfl, ⟨xs, sq, pr⟩, sm, ok⟩ := q
  have hq : Q (.bl true) h := hp _ _ ⟨rfl, rfl⟩
  clear hp
  show r_law_told_v1 _ _ _ _ _ _ [some (.obj (cl "World") [("houses_kept", .lst (List.map houseV p))]), some x, none] h
  unfold r_law_told_v1
  have hlw := sm.len
  have hlx := paired_len pr
  walk_at "zgo"
  refine c_World_len sm ⟨_, rfl, ⟨by omega, by omega⟩, ?_⟩
  walk_at "zgo"
  refine len_seqq sq.seqq ?_
  rw [hlx]
  walk_at "zgo"
  refine len_seqq sq.seqq ?_
  rw [hlx]
  walk_at "zgo"
  refine for_inv (fun i ρ h' => h' = h ∧ ∃ z : Option Val, ρ = [some (.obj (cl "World") [("houses_kept", .lst (List.map houseV p))]), some x, z]) ⟨rfl, none, rfl⟩ ?_
  rintro i ρ h' ⟨rfl, z, rfl⟩
  refine ⟨trivial, fun _ => ?_, fun z hz => ?_⟩
  · walk_at "zgo"
    exact hq
  · obtain ⟨hi, rfl⟩ := rng_get hz
    have hi' : i < p.length := by simpa using hi
    have hg : p[i]? = some p[i] := List.getElem?_eq_getElem hi'
    obtain ⟨y, hy, sy⟩ := paired_get pr hg
    walk_at "zgo"
    refine c_World_house (hs := p[i]) sm (by omega) (by rw [show (0 + (i : Int)).toNat = i by omega]; exact hg) ?_
    walk_at "zgo"
    refine ix_seqq sq.seqq (atI_nat' hy) ?_
    walk_at "zgo"
    refine c_law_alike_lsq (PureV.le (ok _ (List.getElem_mem hi')) (by decide)) sy ?_
    walk_at "zgo"
    exact ⟨rfl, _, rfl⟩
/-! LW2 -/


theorem i_neNil {h : Hh} {x : Val} {d : PyData} {ds : List PyData} {n : Nat} {Q : KQ} (a : Dv h x (.list (d :: ds))) (l : LayD n (.list (d :: ds))) (ln : n ≤ 64) (k : Q (.bl true) h) : wNeD x (.lst []) h Q := by
  refine ⟨_, .list [], a, .lst .nil, l.shaped ln, by decide +kernel, ?_⟩
  simp only [PyData.eqv, PyData.eqvAll]
  exact k
theorem i_neNil0 {h : Hh} {x : Val} {Q : KQ} (a : Dv h x (.list [])) (k : Q (.bl false) h) : wNeD x (.lst []) h Q := by
  refine ⟨_, .list [], a, .lst .nil, by decide +kernel, by decide +kernel, ?_⟩
  simp only [PyData.eqv, PyData.eqvAll]
  exact k
theorem i_eqNil {h : Hh} {x : Val} {d : PyData} {ds : List PyData} {n : Nat} {Q : KQ} (a : Dv h x (.list (d :: ds))) (l : LayD n (.list (d :: ds))) (ln : n ≤ 64) (k : Q (.bl false) h) : wEqD x (.lst []) h Q := by
  refine ⟨_, .list [], a, .lst .nil, l.shaped ln, by decide +kernel, ?_⟩
  simp only [PyData.eqv, PyData.eqvAll]
  exact k
theorem i_eqNil0 {h : Hh} {x : Val} {Q : KQ} (a : Dv h x (.list [])) (k : Q (.bl true) h) : wEqD x (.lst []) h Q := by
  refine ⟨_, .list [], a, .lst .nil, by decide +kernel, by decide +kernel, ?_⟩
  simp only [PyData.eqv, PyData.eqvAll]
  exact k
theorem Lsq.dv {h : Hh} {x : Val} {xs : List Val} {ds : List PyData} (q : Lsq h x xs) (p : Dvs h xs ds) : Dv h x (.list ds) := by
  cases q with
  | lst => exact .lst p
  | ref e => exact .ref e p
theorem lsq_house {h : Hh} {x : Val} {hs : List Thing} (q : Lsq h x (hs.map Thing.v)) : Dv h x (houseD hs) := q.dv (dvs_map Thing.dv hs)
theorem paired_dvs {h : Hh} : ∀ {xs : List Val} {ws : Rooms}, Paired (fun x hs => Lsq h x (hs.map Thing.v)) xs ws → Dvs h xs (ws.map houseD)
  | _, _, .nil => .nil
  | _, _, .cons a r => .cons (lsq_house a) (paired_dvs r)
theorem HsL.dv {h : Hh} {x : Val} {ws : Rooms} (q : HsL h x ws) : Dv h x (roomsD ws) := by
  obtain ⟨xs, a, b⟩ := q
  exact a.dv (paired_dvs b)
/-- the tray, and houses that are owned -/
structure Own (t g : Addr) (h : Hh) (a : Addr) (bs : List Addr) (ws : Rooms) : Prop where
  N : Nest h a bs (thsV ws)
  nt : t ∉ a :: bs
  ng : g ∉ a :: bs
theorem Own.keep {t g a : Addr} {h h' : Hh} {bs : List Addr} {ws : Rooms} (o : Own t g h a bs ws) (k : Keep t g h h') : Own t g h' a bs ws :=
  ⟨o.N.keep fun c hc => k c (fun z => o.nt (z ▸ hc)) (fun z => o.ng (z ▸ hc)), o.nt, o.ng⟩
theorem paired_of {α β : Type} {P : α → β → Prop} : ∀ {xs : List α} {ys : List β}, xs.length = ys.length → (∀ (i : Nat) (x : α) (y : β), xs[i]? = some x → ys[i]? = some y → P x y) → Paired P xs ys
  | [], [], _, _ => .nil
  | [], _ :: _, h, _ => by cases h
  | _ :: _, [], h, _ => by cases h
  | x :: xs, y :: ys, hl, h => .cons (h 0 x y rfl rfl) (paired_of (by simpa using hl) fun i x y e1 e2 => h (i + 1) x y (by simpa using e1) (by simpa using e2))
theorem Nest.hs {h : Hh} {a : Addr} {bs : List Addr} {ws : Rooms} (N : Nest h a bs (thsV ws)) : HsL h (.ref a) ws :=
  ⟨_, .ref N.top, paired_of (by have := N.len; simp at this ⊢; exact this) fun i x hs e1 e2 => by
    rw [List.getElem?_map] at e1
    cases e : bs[i]? with
    | none => rw [e] at e1; cases e1
    | some b =>
      rw [e] at e1
      cases e1
      exact .ref (N.each i b (thV hs) e (by rw [List.getElem?_map, e2]; rfl))⟩
theorem HsL.len {h : Hh} {x : Val} {ws : Rooms} {Q : KQ} (q : HsL h x ws) (k : Q (.int (ws.length : Int)) h) : cLen [x] h Q := by
  obtain ⟨xs, a, b⟩ := q
  refine len_seqq a.seqq ?_
  rw [paired_len b]
  exact k
/-- refs of things only -/
def Thing.Plain (th : Thing) : Prop := ∀ r ∈ th.refs, ∃ a b, r = .thing a b
structure Bd (k : Nat) (ws : Rooms) : Prop where
  len : ws.length ≤ 9 + k
  house : ∀ hs ∈ ws, hs.length ≤ 13
  refs : ∀ hs ∈ ws, ∀ th ∈ hs, th.refs.length ≤ 13 + k ∧ th.Plain
def fs_law_great : FS where
  P := Addr × Addr × Int
  pre := fun (t, g, n) vs h => vs = [.ref t] ∧ Tray h t g n ∧ n ≤ 100000000000000
  post := fun (t, g, n) h v h' => ∃ r : Int, v = .int r ∧ 0 ≤ r ∧ r < 10 ^ 59 ∧ Tray h' t g (n + 4) ∧ Keep t g h h'
theorem c_law_great {t g : Addr} {n : Int} {h : Hh} {E : XQ} {Q : KQ} (T : Tray h t g n) (hn : n ≤ 100000000000000) (k : ∀ (r : Int) h', 0 ≤ r → r < 10 ^ 59 → Tray h' t g (n + 4) → Keep t g h h' → Q (.int r) h') : fs_law_great.sp [.ref t] h E Q :=
  ⟨(t, g, n), ⟨rfl, T, hn⟩, fun v h' ⟨r, e, a, b, c, d⟩ => by subst e; exact k r h' a b c d, fun _ _ _ z => z.elim⟩
def fs_law_wild_ref : FS where
  P := Addr × Addr × Int × List Nat
  pre := fun (t, g, n, ns) vs h => vs = [.ref t, .lst (natsV ns)] ∧ Tray h t g n ∧ n ≤ 10000000000000 ∧ ns.length ≤ 1000
  post := fun (t, g, n, ns) h v h' => ∃ a b : Int, v = (RefD.thing a b).v ∧ Tray h' t g (n + 20) ∧ Keep t g h h'
theorem c_law_wild_ref {t g : Addr} {n : Int} {ns : List Nat} {h : Hh} {E : XQ} {Q : KQ} (T : Tray h t g n) (hn : n ≤ 10000000000000) (hl : ns.length ≤ 1000) (k : ∀ (a b : Int) h', Tray h' t g (n + 20) → Keep t g h h' → Q (RefD.thing a b).v h') : fs_law_wild_ref.sp [.ref t, .lst (natsV ns)] h E Q :=
  ⟨(t, g, n, ns), ⟨rfl, T, hn, hl⟩, fun v h' ⟨a, b, e, c, d⟩ => by subst e; exact k a b h' c d, fun _ _ _ z => z.elim⟩
def fs_law_is_there : FS where
  P := Val × Rooms × Int × Int
  pre := fun (x, ws, a, b) vs h => vs = [x, (RefD.thing a b).v] ∧ HsL h x ws ∧ SmallW ws
  post := fun (x, ws, a, b) h v h' => v = .bl (isThere ws (.thing a b)) ∧ h' = h
theorem c_law_is_there {x : Val} {ws : Rooms} {a b : Int} {h : Hh} {E : XQ} {Q : KQ} (q : HsL h x ws) (s : SmallW ws) (k : Q (.bl (isThere ws (.thing a b))) h) : fs_law_is_there.sp [x, (RefD.thing a b).v] h E Q :=
  ⟨(x, ws, a, b), ⟨rfl, q, s⟩, fun v h' ⟨a, b⟩ => by subst a b; exact k, fun _ _ _ z => z.elim⟩
def fs_law_good : FS where
  P := Val × Rooms × Nat
  pre := fun (x, ws, k) vs h => vs = [x] ∧ HsL h x ws ∧ Bd k ws ∧ k ≤ 100
  post := fun (x, ws, k) h v h' => v = .bl (okWorld ws) ∧ h' = h
theorem c_law_good {x : Val} {ws : Rooms} {m : Nat} {h : Hh} {E : XQ} {Q : KQ} (q : HsL h x ws) (s : Bd m ws) (hm : m ≤ 100) (k : Q (.bl (okWorld ws)) h) : fs_law_good.sp [x] h E Q :=
  ⟨(x, ws, m), ⟨rfl, q, s, hm⟩, fun v h' ⟨a, b⟩ => by subst a b; exact k, fun _ _ _ z => z.elim⟩
def r_law_great : WS :=
  wSeq (wAsg (wCall fs_law_draw [] (wCons (wVar 0) (wCons (wOp wPow (wC (.int 10)) (wC (.int 14))) (wNil)))) (wgName 1))
  (wSeq (wFor (wiR1 (wC (.int 3))) (wgName 2)
  (wAsg (wOp wAdd (wOp wMul (wVar 1) (wOp wPow (wC (.int 10)) (wC (.int 15)))) (wCall fs_law_draw [] (wCons (wVar 0) (wCons (wOp wPow (wC (.int 10)) (wC (.int 15))) (wNil))))) (wgName 1)))
  (wRet (wVar 1)))

def r_law_wild_ref : WS :=
  wSeq (wAsg (wCall fs_law_draw [] (wCons (wVar 0) (wCons (wC (.int 6)) (wNil)))) (wgName 2))
  (wSeq (wAsg (wOp wSub (wCall fs_law_draw [] (wCons (wVar 0) (wCons (wOp wAdd (wCB cLen (wCons (wVar 1) (wNil))) (wC (.int 1))) (wNil)))) (wCB cInt (wCons (wOp wEqS (wVar 2) (wC (.int 0))) (wNil)))) (wgName 3))
  (wSeq (wAsg (wOp wSub (wCall fs_law_draw [] (wCons (wVar 0) (wCons (wC (.int 14)) (wNil)))) (wCB cInt (wCons (wOp wEqS (wVar 2) (wC (.int 1))) (wNil)))) (wgName 4))
  (wSeq (wIf (wTv (wOp wEqS (wVar 2) (wC (.int 2)))) (wAsg (wCall fs_law_great [] (wCons (wVar 0) (wNil))) (wgName 3)) (wNext))
  (wSeq (wIf (wTv (wOp wEqS (wVar 2) (wC (.int 3)))) (wAsg (wOp wSub (wUn (wC (.int 1))) (wCall fs_law_great [] (wCons (wVar 0) (wNil)))) (wgName 4)) (wNext))
  (wSeq (wIf (wAnd (wTv (wOp wGt (wVar 2) (wC (.int 3)))) (wTv (wChain wLe wLt (wC (.int 0)) (wVar 3) (wCB cLen (wCons (wVar 1) (wNil)))))) (wAsg (wOp wAdd (wOp wSub (wOp wIx (wVar 1) (wVar 3)) (wC (.int 5))) (wVar 2)) (wgName 4)) (wNext))
  (wRet (wTup (wCons (wC (.str "thing")) (wCons (wVar 3) (wCons (wVar 4) (wNil)))))))))))

def r_law_is_there : WS :=
  wRet (wAndV (wChain wLe wLt (wC (.int 0)) (wOp wIx (wVar 1) (wC (.int 1))) (wCB cLen (wCons (wVar 0) (wNil)))) (wChain wLe wLt (wC (.int 0)) (wOp wIx (wVar 1) (wC (.int 2))) (wCB cLen (wCons (wOp wIx (wVar 0) (wOp wIx (wVar 1) (wC (.int 1)))) (wNil)))))

def r_law_good : WS :=
  wSeq (wIf (wOr (wTv (wOp wEqD (wVar 0) (wLst (wNil)))) (wTv (wOp wGt (wCB cLen (wCons (wVar 0) (wNil))) (wC (.int 8))))) (wRet (wC (.bl false))) (wNext))
  (wSeq (wFor (wiL (wVar 0)) (wgName 1)
  (wSeq (wIf (wTv (wOp wGt (wCB cLen (wCons (wVar 1) (wNil))) (wC (.int 12)))) (wRet (wC (.bl false))) (wNext))
  (wFor (wiL (wVar 1)) (wgName 2)
  (wSeq (wAsg (wLst (wNil)) (wgName 3))
  (wSeq (wIf (wTv (wOp wEqS (wOp wIx (wVar 2) (wC (.int 0))) (wC (.str "shelf")))) (wAsg (wCB cList (wCons (wOp wIx (wVar 2) (wC (.int 1))) (wNil))) (wgName 3)) (wNext))
  (wSeq (wIf (wTv (wOp wEqS (wOp wIx (wVar 2) (wC (.int 0))) (wC (.str "relay")))) (wAsg (wLst (wCons (wOp wIx (wVar 2) (wC (.int 1))) (wNil))) (wgName 3)) (wNext))
  (wSeq (wAsg (wLc (wiL (wVar 3)) (tg1 4) (wNot (wTv (wCall fs_law_is_there [] (wCons (wVar 0) (wCons (wVar 4) (wNil)))))) (wVar 4) [4]) (wgName 5))
  (wIf (wOr (wTv (wOp wGt (wCB cLen (wCons (wVar 3) (wNil))) (wC (.int 12)))) (wTv (wOp wNeD (wVar 5) (wLst (wNil))))) (wRet (wC (.bl false))) (wNext)))))))))
  (wRet (wC (.bl true))))

theorem rd_law_great {K : Fr} {p vs h Q} {X : XQ} (gd : Good K Q) (q : fs_law_great.pre p vs h) (hp : ∀ v h', fs_law_great.post p h v h' → Q v h') :
    r_law_great (fun _ h' => Q .non h') Q (fun _ _ => False) (fun _ _ => False) (fun C v _ h' => X C v h') (startV ["tray", "found", "k"] vs) h := by
  obtain ⟨t, g, n⟩ := p
  obtain ⟨rfl, T, hn⟩ := q
  show r_law_great _ _ _ _ _ [some (.ref t), none, none] h
  unfold r_law_great
  have e14 : (10 : Int) ^ (14 : Int).toNat = 100000000000000 := by decide
  have e15 : (10 : Int) ^ (15 : Int).toNat = 1000000000000000 := by decide
  walk_at "zgo"
  refine i_pow (by refine ⟨by omega, by omega, ?_⟩; omega) ?_
  refine c_law_draw T (by omega) (by decide) (by decide) fun f h2 r0 r1 T2 kp2 => ?_
  rw [e14] at r1
  walk_at "zgo"
  refine for_inv (fun i ρ h' => i ≤ 3 ∧ ∃ (f : Int) (x : Option Val), ρ = [some (.ref t), some (.int f), x] ∧ 0 ≤ f ∧ f < 10 ^ 14 * (10 ^ 15) ^ i ∧ Tray h' t g (n + 1 + i) ∧ Keep t g h h') ⟨by omega, f, none, rfl, r0, by simpa using r1, T2.more (by omega), kp2⟩ ?_
  rintro i ρ h3 ⟨hi, f, x, rfl, f0, f1, T3, kp3⟩
  refine ⟨trivial, fun hi2 => ?_, fun z hz => ?_⟩
  · rw [rng_len] at hi2
    have hi3 : i = 3 := by simp at hi2; omega
    subst hi3
    walk_at "zgo"
    exact hp _ _ ⟨_, rfl, f0, by omega, T3.more (by omega), kp3⟩
  · obtain ⟨hi3, rfl⟩ := rng_get hz
    have hi4 : i < 3 := by simpa using hi3
    walk_at "zgo"
    refine i_pow (by refine ⟨by omega, by omega, ?_⟩; omega) ?_
    refine i_mul (.inr ⟨by decide, by decide⟩) ?_
    walk_at "zgo"
    refine i_pow (by refine ⟨by omega, by omega, ?_⟩; omega) ?_
    refine c_law_draw T3 (by omega) (by decide) (by decide) fun r h4 r0 r1 T4 kp4 => ?_
    walk_at "zgo"
    refine ⟨by omega, _, _, rfl, ?_, ?_, T4.more (by omega), kp3.trans kp4⟩
    · rw [e15] at r1 ⊢
      omega
    · rw [e15] at r1 ⊢
      rw [Int.pow_succ]
      have : f ≤ 10 ^ 14 * (10 ^ 15) ^ i - 1 := by omega
      have := Int.mul_le_mul_of_nonneg_right this (show (0 : Int) ≤ 10 ^ 15 by decide)
      omega
theorem rd_law_wild_ref {K : Fr} {p vs h Q} {X : XQ} (gd : Good K Q) (q : fs_law_wild_ref.pre p vs h) (hp : ∀ v h', fs_law_wild_ref.post p h v h' → Q v h') :
    r_law_wild_ref (fun _ h' => Q .non h') Q (fun _ _ => False) (fun _ _ => False) (fun C v _ h' => X C v h') (startV ["tray", "sizes", "kind", "house", "number"] vs) h := by
  obtain ⟨t, g, n, ns⟩ := p
  obtain ⟨rfl, T, hn, hl⟩ := q
  show r_law_wild_ref _ _ _ _ _ [some (.ref t), some (.lst (natsV ns)), none, none, none] h
  unfold r_law_wild_ref
  have hln : (natsV ns).length = ns.length := by simp [natsV]
  generalize hR4 : wSeq (wIf (wAnd _ _) _ _) _ = R4
  generalize hR3 : wSeq (wIf (wTv (wOp wEqS (wVar 2) (wC (Val.int 3)))) _ _) R4 = R3
  have r4 : ∀ (kind a b : Int) h', kind < 6 → Tray h' t g (n + 11) → Keep t g h h' → R4 (fun _ h' => Q .non h') Q (fun _ _ => False) (fun _ _ => False) (fun C v _ h' => X C v h') [some (.ref t), some (.lst (natsV ns)), some (.int kind), some (.int a), some (.int b)] h' := fun kind a b h' k6 T' kp => by
    rw [← hR4]
    have fin : ∀ b : Int, Q (RefD.thing a b).v h' := fun b => hp _ _ ⟨a, b, rfl, T'.more (by omega), kp⟩
    walk_at "zgo"
    by_cases c : 3 < kind ∧ 0 ≤ a ∧ a < (ns.length : Int)
    · obtain ⟨c1, c2, c3⟩ := c
      walk_at "zgo"
      refine i_ixL (atI_toNat (v := .int (ns[a.toNat]'(by omega) : Int)) c2 (by simp [natsV, List.getElem?_eq_getElem (show a.toNat < ns.length by omega)])) ?_
      walk_at "zgo"
      exact fin _
    · by_cases c1 : 3 < kind
      · by_cases c2 : 0 ≤ a
        · have c3 : ¬ a < (ns.length : Int) := fun z => c ⟨c1, c2, z⟩
          walk_at "zgo"
          exact fin _
        · walk_at "zgo"
          exact fin _
      · walk_at "zgo"
        exact fin _
  have r3 : ∀ (kind a b : Int) h', kind < 6 → Tray h' t g (n + 7) → Keep t g h h' → R3 (fun _ h' => Q .non h') Q (fun _ _ => False) (fun _ _ => False) (fun C v _ h' => X C v h') [some (.ref t), some (.lst (natsV ns)), some (.int kind), some (.int a), some (.int b)] h' := fun kind a b h' k6 T' kp => by
    rw [← hR3]
    walk_at "zgo"
    refine i_ifd (fun e => ?_) (fun e => ?_)
    · walk_at "zgo"
      refine c_law_great T' (by omega) fun r h1 r0 r1 T1 kp1 => ?_
      walk_at "zgo"
      exact r4 _ _ _ _ k6 (T1.more (by omega)) (kp.trans kp1)
    · walk_at "zgo"
      exact r4 _ _ _ _ k6 (T'.more (by omega)) kp
  walk_at "zgo"
  refine c_law_draw T (by omega) (by decide) (by decide) fun kind h1 k0 k1 T1 kp1 => ?_
  walk_at "zgo"
  rw [hln]
  refine c_law_draw T1 (by omega) (by omega) (by omega) fun a h2 a0 a1 T2 kp2 => ?_
  walk_at "zgo"
  refine c_law_draw T2 (by omega) (by decide) (by decide) fun b h3 b0 b1 T3 kp3 => ?_
  walk_at "zgo"
  refine i_ifd (fun e => ?_) (fun e => ?_)
  · walk_at "zgo"
    refine c_law_great T3 (by omega) fun r h4 r0 r1 T4 kp4 => ?_
    walk_at "zgo"
    exact r3 _ _ _ _ k1 (T4.more (by omega)) ((kp1.trans kp2).trans (kp3.trans kp4))
  · walk_at "zgo"
    exact r3 _ _ _ _ k1 (T3.more (by omega)) ((kp1.trans kp2).trans kp3)
theorem atI_nat2 {xs : List Val} {i : Int} {v : Val} (h0 : 0 ≤ i) (h : xs[i.toNat]? = some v) : L2.atI xs i = some v := atI_toNat h0 h
theorem rd_law_is_there {K : Fr} {p vs h Q} {X : XQ} (gd : Good K Q) (q : fs_law_is_there.pre p vs h) (hp : ∀ v h', fs_law_is_there.post p h v h' → Q v h') :
    r_law_is_there (fun _ h' => Q .non h') Q (fun _ _ => False) (fun _ _ => False) (fun C v _ h' => X C v h') (startV ["houses", "ref"] vs) h := by
  obtain ⟨x, ws, a, b⟩ := p
  obtain ⟨rfl, q, sm⟩ := q
  have hq : Q (.bl (isThere ws (.thing a b))) h := hp _ _ ⟨rfl, rfl⟩
  clear hp
  obtain ⟨xs, sq, pr⟩ := q
  have hlx := paired_len pr
  show r_law_is_there _ _ _ _ _ [some x, some (.tup [.str "thing", .int a, .int b])] h
  unfold r_law_is_there
  by_cases c0 : 0 ≤ a
  · walk_at "zgo"
    refine len_seqq sq.seqq ?_
    rw [hlx]
    by_cases c1 : a < (ws.length : Int)
    · have hg : ws[a.toNat]? = some (ws[a.toNat]'(by omega)) := List.getElem?_eq_getElem (by omega)
      obtain ⟨y, hy, sy⟩ := paired_get pr hg
      have e1 : isThere ws (.thing a b) = decide (0 ≤ b ∧ b < ((ws[a.toNat]'(by omega)).length : Int)) := by
        show decide (0 ≤ a ∧ a < (ws.length : Int) ∧ 0 ≤ b ∧ b < (((ws[a.toNat]?).getD []).length : Int)) = _
        rw [hg]
        simp [c0, c1]
      rw [e1] at hq
      walk_at "zgo"
      by_cases c2 : 0 ≤ b
      · walk_at "zgo"
        refine ix_seqq sq.seqq (atI_nat2 c0 hy) ?_
        walk_at "zgo"
        refine len_seqq sy.seqq ?_
        rw [List.length_map]
        walk_at "zgo"
        simpa [c2] using hq
      · walk_at "zgo"
        simpa [c2] using hq
    · have e1 : isThere ws (.thing a b) = false := by
        unfold isThere
        simp [c1]
      rw [e1] at hq
      walk_at "zgo"
      exact hq
  · have e1 : isThere ws (.thing a b) = false := by
      unfold isThere
      simp [c0]
    rw [e1] at hq
    walk_at "zgo"
    exact hq
theorem its_lsq {h : Hh} {x : Val} {xs : List Val} {G : List Val → (Hh → Prop) → Hh → Prop} (sq : Lsq h x xs) (q : ∀ P : Hh → Prop, P h → G xs P h) : Its h x G := by
  cases sq with
  | lst => exact i_itsF (q _ trivial)
  | ref e => exact i_itsR e (q _ e)
theorem k02_refs {TAIL : WS} {nx rt bk ct xe} {v0 v1 v3 v4 v5 : Option Val} {th : Thing} {h : Hh} (rl : th.refs.length ≤ 1000)
    (k : TAIL nx rt bk ct xe [v0, v1, some th.v, some (.lst (th.refs.map RefD.v)), v4, v5] h) :
  (wSeq (wAsg (wLst (wNil)) (wgName 3))
  (wSeq (wIf (wTv (wOp wEqS (wOp wIx (wVar 2) (wC (.int 0))) (wC (.str "shelf")))) (wAsg (wCB cList (wCons (wOp wIx (wVar 2) (wC (.int 1))) (wNil))) (wgName 3)) (wNext))
  (wSeq (wIf (wTv (wOp wEqS (wOp wIx (wVar 2) (wC (.int 0))) (wC (.str "relay")))) (wAsg (wLst (wCons (wOp wIx (wVar 2) (wC (.int 1))) (wNil))) (wgName 3)) (wNext)) TAIL)))
    nx rt bk ct xe [v0, v1, some th.v, v3, v4, v5] h := by
  walk_at "zgo"
  refine i_newF ?_
  cases th with
  | box w =>
    unfold Thing.v
    walk_at "zgo"
    exact k
  | shelf rs =>
    unfold Thing.v
    walk_at "zgo"
    refine i_newF ?_
    walk_at "zgo"
    exact k
  | relay r =>
    unfold Thing.v
    walk_at "zgo"
    refine i_newF ?_
    walk_at "zgo"
    exact k
  | maker =>
    unfold Thing.v
    walk_at "zgo"
    exact k
  | stone =>
    unfold Thing.v
    walk_at "zgo"
    exact k
theorem bd_small {k : Nat} {ws : Rooms} (b : Bd k ws) (hk : k ≤ 100) : SmallW ws := ⟨by have := b.len; omega, fun hs hh => by have := b.house hs hh; omega⟩
theorem rd_law_good {K : Fr} {p vs h Q} {X : XQ} (gd : Good K Q) (q : fs_law_good.pre p vs h) (hp : ∀ v h', fs_law_good.post p h v h' → Q v h') :
    r_law_good (fun _ h' => Q .non h') Q (fun _ _ => False) (fun _ _ => False) (fun C v _ h' => X C v h') (startV ["houses", "things", "thing", "refs", "ref", "bad"] vs) h := by
  obtain ⟨x, ws, m⟩ := p
  obtain ⟨rfl, q, bd, hm⟩ := q
  have hq : ∀ b, okWorld ws = b → Q (.bl b) h := fun b e => hp _ _ ⟨by rw [e], rfl⟩
  clear hp
  have sm := bd_small bd hm
  have q0 := q
  obtain ⟨xs, sq, pr⟩ := q
  have hlx := paired_len pr
  have hlen := bd.len
  show r_law_good _ _ _ _ _ [some x, none, none, none, none, none] h
  unfold r_law_good
  generalize hR : wSeq (wAsg (wLst wNil) _) _ = REST
  walk_at "zgo"
  by_cases hn : ws = []
  · subst hn
    refine i_newF ?_
    refine i_eqNil0 q0.dv ?_
    walk_at "zgo"
    exact hq _ rfl
  obtain ⟨w0, wr, hw⟩ : ∃ w0 wr, ws = w0 :: wr := by
    cases ws with
    | nil => exact absurd rfl hn
    | cons w0 wr => exact ⟨w0, wr, rfl⟩
  refine i_newF ?_
  have lay := rooms_lay ws
  have dv0 := q0.dv
  rw [show roomsD ws = .list (houseD w0 :: wr.map houseD) by rw [hw]; rfl] at lay dv0
  refine i_eqNil dv0 lay (by decide) ?_
  walk_at "zgo"
  refine len_seqq sq.seqq ?_
  rw [hlx]
  walk_at "zgo"
  have hpos : 1 ≤ ws.length := by rw [hw]; simp
  by_cases c8 : 8 < (ws.length : Int)
  · walk_at "zgo"
    refine hq _ ?_
    unfold okWorld
    rw [decide_eq_false (show ¬ ws.length ≤ 8 by omega)]
    simp
  walk_at "zgo"
  refine its_lsq sq fun P0 hP0 => ?_
  refine for_inv (fun i ρ h' => h' = h ∧ (∃ a b c d e : Option Val, ρ = [some x, a, b, c, d, e]) ∧ i ≤ ws.length ∧ ∀ j hs, j < i → ws[j]? = some hs → isGood ws hs = true) ⟨rfl, ⟨_, _, _, _, _, rfl⟩, by omega, fun j hs hj => by omega⟩ ?_
  rintro i ρ h' ⟨rfl, ⟨a1, a2, a3, a4, a5, rfl⟩, hi, hgood⟩
  refine ⟨hP0, fun hi2 => ?_, fun z hz => ?_⟩
  · walk_at "zgo"
    refine hq _ ?_
    unfold okWorld
    rw [decide_eq_true hpos, decide_eq_true (show ws.length ≤ 8 by omega), Bool.true_and, Bool.true_and, List.all_eq_true]
    intro hs hh
    obtain ⟨j, hj, rfl⟩ := List.getElem_of_mem hh
    exact hgood j _ (by omega) (List.getElem?_eq_getElem hj)
  have hil : i < ws.length := by rw [← hlx]; exact (List.getElem?_eq_some_iff.mp hz).1
  have hgi : ws[i]? = some ws[i] := List.getElem?_eq_getElem hil
  obtain ⟨z2, hz2, sz⟩ := paired_get pr hgi
  have ez : z2 = z := Option.some.inj (hz2.symm.trans hz)
  subst ez
  have bad : isGood ws ws[i] = false → Q (.bl false) h' := fun e => hq _ (by
    unfold okWorld
    have : ws.all (isGood ws) = false := by
      rw [List.all_eq_false]
      exact ⟨_, List.getElem_mem hil, by rw [e]; decide⟩
    rw [this]
    simp)
  walk_at "zgo"
  refine len_seqq sz.seqq ?_
  rw [List.length_map]
  by_cases c12 : 12 < (ws[i].length : Int)
  · walk_at "zgo"
    refine bad ?_
    unfold isGood
    rw [decide_eq_false (show ¬ ws[i].length ≤ 12 by omega)]
    simp
  walk_at "zgo"
  refine its_lsq sz fun P1 hP1 => ?_
  refine for_inv (fun j ρ h2 => h2 = h' ∧ (∃ b c d e : Option Val, ρ = [some x, some z2, b, c, d, e]) ∧ ∀ k th, k < j → ws[i][k]? = some th → th.refs.length ≤ 12 ∧ th.refs.all (isThere ws) = true) ⟨rfl, ⟨_, _, _, _, rfl⟩, fun k th hk => by omega⟩ ?_
  rintro j ρ h2 ⟨rfl, ⟨b1, b2, b3, b4, rfl⟩, hth⟩
  refine ⟨hP1, fun hj2 => ?_, fun y hy => ?_⟩
  · walk_at "zgo"
    refine ⟨rfl, ⟨_, _, _, _, _, rfl⟩, by omega, fun k hs hk ek => ?_⟩
    by_cases e : k = i
    · subst e
      rw [hgi] at ek
      cases ek
      unfold isGood
      rw [decide_eq_true (show ws[k].length ≤ 12 by omega), Bool.true_and, List.all_eq_true]
      intro th ht
      obtain ⟨q, hq2, rfl⟩ := List.getElem_of_mem ht
      obtain ⟨e1, e2⟩ := hth q _ (by simp at hj2; omega) (List.getElem?_eq_getElem hq2)
      rw [e2, decide_eq_true e1]
      rfl
    · exact hgood k hs (by omega) ek
  obtain ⟨th, ht, rfl⟩ := map_get hy
  obtain ⟨rl, rp⟩ := bd.refs _ (List.getElem_mem hil) th (List.mem_of_getElem? ht)
  walk_at "zgo"
  rw [← hR]
  refine k02_refs (th := th) (by omega) ?_
  walk_at "zgo"
  refine lc_inv (fun k acc h3 => h3 = h2 ∧ acc = ((th.refs.take k).filter fun r => !isThere ws r).map RefD.v) ⟨rfl, by simp⟩ ?_
  rintro k acc h3 ⟨rfl, rfl⟩
  refine ⟨trivial, fun hk => ?_, fun r hr => ?_⟩
  rotate_left
  · obtain ⟨r, hr2, rfl⟩ := map_get hr
    obtain ⟨a, b, rfl⟩ := rp r (List.mem_of_getElem? hr2)
    walk_at "zgo"
    refine c_law_is_there q0 sm ?_
    walk_at "zgo"
    have et : (th.refs.take (k + 1)) = th.refs.take k ++ [.thing a b] := by rw [List.take_succ, hr2]; rfl
    rw [et, List.filter_append, List.map_append]
    cases e : isThere ws (.thing a b) with
    | true =>
      walk_at "zgo"
      exact ⟨rfl, by simp [e]⟩
    | false =>
      walk_at "zgo"
      exact ⟨by simp; have := List.length_filter_le (fun r => !isThere ws r) (th.refs.take k); have := (List.take_sublist k th.refs).length_le; omega, rfl, by simp [e]⟩
  rw [List.length_map] at hk
  rw [List.take_of_length_le hk]
  have badt : (decide (th.refs.length ≤ 12) && th.refs.all (isThere ws)) = false → Q (.bl false) h3 := fun e => bad (by
    unfold isGood
    have : (ws[i].all fun th => decide (th.refs.length ≤ 12) && th.refs.all (isThere ws)) = false := by
      rw [List.all_eq_false]
      exact ⟨th, List.mem_of_getElem? ht, by rw [e]; decide⟩
    rw [this]
    simp)
  refine i_newF ?_
  walk_at "zgo"
  rw [List.length_map]
  by_cases l12 : 12 < (th.refs.length : Int)
  · walk_at "zgo"
    refine badt ?_
    rw [decide_eq_false (show ¬ th.refs.length ≤ 12 by omega)]
    rfl
  walk_at "zgo"
  refine i_newF ?_
  cases hf : th.refs.filter fun r => !isThere ws r with
  | nil =>
    refine i_neNil0 (.lst .nil) ?_
    walk_at "zgo"
    have hall : th.refs.all (isThere ws) = true := by
      rw [List.all_eq_true]
      intro r hr
      have := List.filter_eq_nil_iff.mp hf r hr
      simpa using this
    refine ⟨rfl, ⟨_, _, _, _, rfl⟩, fun k2 th2 hk2 e2 => ?_⟩
    by_cases e : k2 = j
    · subst e
      rw [ht] at e2
      cases e2
      exact ⟨by omega, hall⟩
    · exact hth k2 th2 (by omega) e2
  | cons r0 rr =>
    refine i_neNil (n := 2) (d := r0.d) (ds := rr.map RefD.d) (.lst (dvs_map RefD.dv (r0 :: rr))) (LayD.list (n := 1) fun d hd => by
      obtain ⟨r, _, rfl⟩ := List.mem_map.mp (show d ∈ (r0 :: rr).map RefD.d from hd)
      exact r.lay) (by decide) ?_
    walk_at "zgo"
    refine badt ?_
    have hm : r0 ∈ th.refs.filter fun r => !isThere ws r := by rw [hf]; simp
    have : th.refs.all (isThere ws) = false := by
      rw [List.all_eq_false]
      have := List.mem_filter.mp hm
      exact ⟨r0, this.1, by simpa using this.2⟩
    rw [this]
    simp
/-! LW3 -/


def fs_law_spoilt_thing : FS where
  P := Addr × Addr × Int × Addr × List Addr × Rooms × Nat × Int × List Thing
  pre := fun (t, g, n, a, bs, ws, m, p, hs) vs h => vs = [.ref t, .ref a, .int p] ∧ Tray h t g n ∧ n ≤ 1000000000000 ∧ Own t g h a bs ws ∧ Bd m ws ∧ m ≤ 50 ∧ 0 ≤ p ∧ ws[p.toNat]? = some hs ∧ hs ≠ []
  post := fun (t, g, n, a, bs, ws, m, p, hs) h v h' => ∃ (i : Int) (th : Thing), v = .lst [.int i, th.v] ∧ 0 ≤ i ∧ i < (hs.length : Int) ∧ th.refs.length ≤ 14 + m ∧ th.Plain ∧ Tray h' t g (n + 100) ∧ Keep t g h h'
theorem c_law_spoilt_thing {t g a : Addr} {n p : Int} {bs : List Addr} {ws : Rooms} {m : Nat} {hs : List Thing} {h : Hh} {E : XQ} {Q : KQ} (T : Tray h t g n) (hn : n ≤ 1000000000000) (o : Own t g h a bs ws) (bd : Bd m ws) (hm : m ≤ 50) (p0 : 0 ≤ p) (e : ws[p.toNat]? = some hs) (ne : hs ≠ [])
    (k : ∀ (i : Int) (th : Thing) h', 0 ≤ i → i < (hs.length : Int) → th.refs.length ≤ 14 + m → th.Plain → Tray h' t g (n + 100) → Keep t g h h' → Q (.lst [.int i, th.v]) h') : fs_law_spoilt_thing.sp [.ref t, .ref a, .int p] h E Q :=
  ⟨(t, g, n, a, bs, ws, m, p, hs), ⟨rfl, T, hn, o, bd, hm, p0, e, ne⟩, fun v h' ⟨i, th, e, a, b, c, d, f, g⟩ => by subst e; exact k i th h' a b c d f g, fun _ _ _ z => z.elim⟩
def r_law_spoilt_thing : WS :=
  wSeq (wAsg (wCall fs_law_draw [] (wCons (wVar 0) (wCons (wC (.int 4)) (wNil)))) (wgName 3))
  (wSeq (wAsg (wCall fs_law_draw [] (wCons (wVar 0) (wCons (wCB cLen (wCons (wOp wIx (wVar 1) (wVar 2)) (wNil))) (wNil)))) (wgName 4))
  (wSeq (wAsg (wLc (wiL (wVar 1)) (tg1 5) wYes (wCB cLen (wCons (wVar 5) (wNil))) [5]) (wgName 6))
  (wSeq (wAsg (wOp wIx (wOp wIx (wVar 1) (wVar 2)) (wVar 4)) (wgName 7))
  (wSeq (wIf (wTv (wOp wEqS (wVar 3) (wC (.int 0)))) (wRet (wLst (wCons (wVar 4) (wCons (wTup (wCons (wC (.str "relay")) (wCons (wCall fs_law_wild_ref [] (wCons (wVar 0) (wCons (wVar 6) (wNil)))) (wNil)))) (wNil))))) (wNext))
  (wSeq (wIf (wTv (wOp wEqS (wVar 3) (wC (.int 1)))) (wSeq (wAsg (wOp wAdd (wC (.int 12)) (wCall fs_law_draw [] (wCons (wVar 0) (wCons (wC (.int 2)) (wNil))))) (wgName 8))
  (wRet (wLst (wCons (wVar 4) (wCons (wTup (wCons (wC (.str "shelf")) (wCons (wCB cTuple (wCons (wLc (wiR1 (wVar 8)) (tg1 9) wYes (wCall fs_law_ref [] (wCons (wVar 0) (wCons (wVar 6) (wNil)))) [9]) (wNil))) (wNil)))) (wNil)))))) (wNext))
  (wSeq (wAsg (wLst (wNil)) (wgName 10))
  (wSeq (wIf (wTv (wOp wEqS (wOp wIx (wVar 7) (wC (.int 0))) (wC (.str "shelf")))) (wAsg (wCB cList (wCons (wOp wIx (wVar 7) (wC (.int 1))) (wNil))) (wgName 10)) (wNext))
  (wSeq (wExpr (wBM "list" mInsert (wVar 10) (wCons (wCall fs_law_draw [] (wCons (wVar 0) (wCons (wOp wAdd (wCB cLen (wCons (wVar 10) (wNil))) (wC (.int 1))) (wNil)))) (wCons (wCall fs_law_wild_ref [] (wCons (wVar 0) (wCons (wVar 6) (wNil)))) (wNil)))))
  (wRet (wLst (wCons (wVar 4) (wCons (wTup (wCons (wC (.str "shelf")) (wCons (wCB cTuple (wCons (wVar 10) (wNil))) (wNil)))) (wNil)))))))))))))

theorem sum_le13 {ns : List Nat} (h : ∀ k ∈ ns, k ≤ 13) : ns.sum ≤ 13 * ns.length := by
  induction ns with
  | nil => simp
  | cons n ns ih =>
    have h1 := h n (by simp)
    have h2 := ih fun k hk => h k (by simp [hk])
    simp only [List.sum_cons, List.length_cons]; omega
theorem rd_law_spoilt_thing {K : Fr} {p vs h Q} {X : XQ} (gd : Good K Q) (q : fs_law_spoilt_thing.pre p vs h) (hp : ∀ v h', fs_law_spoilt_thing.post p h v h' → Q v h') :
    r_law_spoilt_thing (fun _ h' => Q .non h') Q (fun _ _ => False) (fun _ _ => False) (fun C v _ h' => X C v h') (startV ["tray", "houses", "at", "way", "number", "things", "sizes", "old", "many", "k", "refs"] vs) h := by
  obtain ⟨t, g, n, a, bs, ws, m, p, hs⟩ := p
  obtain ⟨rfl, T, hn, o, bd, hm, p0, e, ne⟩ := q
  have hp : ∀ (i : Int) (th : Thing) h', 0 ≤ i → i < (hs.length : Int) → th.refs.length ≤ 14 + m → th.Plain → Tray h' t g (n + 100) → Keep t g h h' → Q (.lst [.int i, th.v]) h' := fun i th h' a b c d f g => hp _ _ ⟨i, th, rfl, a, b, c, d, f, g⟩
  have hmem : hs ∈ ws := List.mem_of_getElem? e
  have hh13 := bd.house hs hmem
  have hpos : 1 ≤ hs.length := by cases hs with
    | nil => exact absurd rfl ne
    | cons => simp
  have hpl : p.toNat < ws.length := (List.getElem?_eq_some_iff.mp e).1
  show r_law_spoilt_thing _ _ _ _ _ [some (.ref t), some (.ref a), some (.int p), none, none, none, none, none, none, none, none] h
  unfold r_law_spoilt_thing
  walk_at "zgo"
  refine c_law_draw T (by omega) (by decide) (by decide) fun way h1 w0 w1 T1 kp1 => ?_
  have o1 := o.keep kp1
  obtain ⟨b, hb, hb2, hba⟩ := o1.N.at (i := p.toNat) (xs := thV hs) (by rw [List.getElem?_map, e]; rfl)
  walk_at "zgo"
  refine i_ixR o1.N.top (atI_nat2 p0 (o1.N.val hb)) ?_
  walk_at "zgo"
  rw [show (thV hs).length = hs.length by simp [thV]]
  refine c_law_draw T1 (by omega) (by omega) (by omega) fun i h2 i0 i1 T2 kp2 => ?_
  have o2 := o1.keep kp2
  have kp12 := kp1.trans kp2
  have q2 := o2.N.hs
  obtain ⟨b2, hb2', hb22, hba2⟩ := o2.N.at (i := p.toNat) (xs := thV hs) (by rw [List.getElem?_map, e]; rfl)
  walk_at "zgo"
  obtain ⟨xs, sq, pr⟩ := q2
  have hlx := paired_len pr
  refine its_lsq sq fun P0 hP0 => ?_
  refine lc_inv (fun k acc h3 => h3 = h2 ∧ acc = natsV ((ws.take k).map List.length)) ⟨rfl, by simp [natsV]⟩ ?_
  rintro k acc h3 ⟨rfl, rfl⟩
  refine ⟨hP0, fun hk => ?_, fun z hz => ?_⟩
  rotate_left
  · have hkl : k < ws.length := by rw [← hlx]; exact (List.getElem?_eq_some_iff.mp hz).1
    have hgk : ws[k]? = some ws[k] := List.getElem?_eq_getElem hkl
    obtain ⟨z2, hz2, sz⟩ := paired_get pr hgk
    have ez : z2 = z := Option.some.inj (hz2.symm.trans hz)
    subst ez
    walk_at "zgo"
    refine len_seqq sz.seqq ?_
    rw [List.length_map]
    refine ⟨by have := bd.len; simp [natsV]; omega, rfl, ?_⟩
    rw [List.take_succ, hgk, List.map_append]
    unfold natsV
    rw [List.map_append]
    rfl
  rw [List.take_of_length_le (by omega)]
  generalize hns : ws.map List.length = ns
  have hnl : ns.length = ws.length := by rw [← hns, List.length_map]
  have hn13 : ∀ k ∈ ns, k ≤ 13 := fun k hk => by
    rw [← hns] at hk
    obtain ⟨hs, hh, rfl⟩ := List.mem_map.mp hk
    exact bd.house hs hh
  have hsum := sum_le13 hn13
  have hsum0 : 0 < ns.sum := sum_pos (k := hs.length) (by rw [← hns]; exact List.mem_map.mpr ⟨hs, hmem, rfl⟩) (by omega)
  have hlen := bd.len
  refine i_newF ?_
  walk_at "zgo"
  refine i_ixR o2.N.top (atI_nat2 p0 (o2.N.val hb2')) ?_
  walk_at "zgo"
  have hil : i.toNat < hs.length := by omega
  refine i_ixR hb22 (v := (hs[i.toNat]).v) (atI_nat2 i0 (by simp [thV, List.getElem?_eq_getElem hil])) ?_
  obtain ⟨rl, rp⟩ := bd.refs hs hmem _ (List.getElem_mem hil)
  generalize hs[i.toNat] = th at rl rp
  walk_at "zgo"
  have hway : way = 0 ∨ way = 1 ∨ (way ≠ 0 ∧ way ≠ 1) := by omega
  rcases hway with rfl | rfl | ⟨e0, e1⟩
  · walk_at "zgo"
    refine c_law_wild_ref T2 (by omega) (by omega) fun c d h4 T4 kp4 => ?_
    walk_at "zgo"
    refine i_newF ?_
    exact hp i (.relay (.thing c d)) h4 i0 i1 (by simp [Thing.refs]; omega) (fun r hr => by simp [Thing.refs] at hr; subst hr; exact ⟨c, d, rfl⟩) (T4.more (by omega)) (kp12.trans kp4)
  · walk_at "zgo"
    refine c_law_draw T2 (by omega) (by decide) (by decide) fun r h4 r0 r1 T4 kp4 => ?_
    walk_at "zgo"
    refine lc_inv (fun k acc h5 => k ≤ 14 ∧ (∃ rs : List RefD, acc = rs.map RefD.v ∧ rs.length = k ∧ ∀ r ∈ rs, ∃ a b, r = .thing a b) ∧ Tray h5 t g (n + 3 + k) ∧ Keep t g h h5) ⟨by omega, ⟨[], rfl, rfl, by simp⟩, T4.more (by omega), kp12.trans kp4⟩ ?_
    rintro k acc h5 ⟨hk, ⟨rs, rfl, hrl, hrp⟩, T5, kp5⟩
    refine ⟨trivial, fun hk2 => ?_, fun z hz => ?_⟩
    · refine i_newF ?_
      walk_at "zgo"
      refine i_newF ?_
      exact hp i (.shelf rs) h5 i0 i1 (by simp [Thing.refs]; omega) hrp (T5.more (by omega)) kp5
    · obtain ⟨hk3, rfl⟩ := rng_get hz
      walk_at "zgo"
      refine c_law_ref T5 (by omega) hsum0 (by omega) fun r h6 hr T6 kp6 => ?_
      refine ⟨by simp; omega, by omega, ⟨rs ++ [r], by simp, by simp [hrl], fun u hu => ?_⟩, T6.more (by omega), kp5.trans kp6⟩
      rcases List.mem_append.mp hu with hu | hu
      · exact hrp u hu
      · simp at hu
        subst hu
        cases u with
        | thing a b => exact ⟨a, b, rfl⟩
        | made a b c => exact hr.elim
  · generalize hR : wSeq (wExpr (wBM "list" mInsert _ _)) _ = TAIL
    have rest : ∀ (rs : List RefD) (q : Addr), h3 q = none → rs.length ≤ 13 + m → (∀ r ∈ rs, ∃ a b, r = .thing a b) → ∀ (v7 : Option Val), TAIL (fun _ h' => Q .non h') Q (fun _ _ => False) (fun _ _ => False) (fun C v _ h' => X C v h')
        [some (.ref t), some (.ref a), some (.int p), some (.int way), some (.int i), none, some (.lst (natsV ns)), v7, none, none, some (.ref q)] (hup h3 q (.lst (rs.map RefD.v))) := fun rs q hq hrl hrp v7 => by
      rw [← hR]
      obtain ⟨qt, qg⟩ := T2.new hq
      walk_at "zgo"
      rw [List.length_map]
      refine c_law_draw (T2.hup qt qg) (by omega) (by omega) (by omega) fun j h4 j0 j1 T4 kp4 => ?_
      walk_at "zgo"
      refine c_law_wild_ref T4 (by omega) (by omega) fun c d h5 T5 kp5 => ?_
      walk_at "zgo"
      have hq5 : h5 q = some (.lst (rs.map RefD.v)) := by rw [(kp4.trans kp5) q qt qg, hup_same]
      refine i_insert hq5 (by simp; omega) j0 (by omega) ?_
      walk_at "zgo"
      refine i_newF ?_
      refine gd.drop (h' := hdel h5 q) (fun b o hb => ?_) ?_
      · by_cases eb : b = q
        · subst eb; rw [hdel_same] at hb; cases hb
        · rw [hdel_ne eb] at hb; rw [hup_ne eb]; exact hb
      rw [← List.map_take, ← List.map_drop, show [(RefD.thing c d).v] = [RefD.thing c d].map RefD.v from rfl, ← List.map_append, ← List.map_append]
      refine hp i (.shelf _) _ i0 i1 ?_ ?_ ((T5.same (hdel_ne qt.symm) (hdel_ne qg.symm)).more (by omega)) fun b b1 b2 => ?_
      · simp [Thing.refs]
        omega
      · intro r hr
        simp only [Thing.refs, List.mem_append] at hr
        rcases hr with (hr | hr) | hr
        · exact hrp r (List.mem_of_mem_take hr)
        · simp at hr; subst hr; exact ⟨c, d, rfl⟩
        · exact hrp r (List.mem_of_mem_drop hr)
      · by_cases eb : b = q
        · subst eb; rw [hdel_same, ← kp12 b b1 b2]; exact hq.symm
        · rw [hdel_ne eb, (kp4.trans kp5) b b1 b2, hup_ne eb, kp12 b b1 b2]
    walk_at "zgo"
    cases th with
    | shelf rs =>
      unfold Thing.v
      refine i_newF ?_
      walk_at "zgo"
      refine i_newO fun q hq => ?_
      walk_at "zgo"
      exact rest rs q hq rl rp _
    | box w =>
      refine i_newO fun q hq => ?_
      unfold Thing.v
      walk_at "zgo"
      exact rest [] q hq (by simp) (by simp) _
    | relay w =>
      refine i_newO fun q hq => ?_
      unfold Thing.v
      walk_at "zgo"
      exact rest [] q hq (by simp) (by simp) _
    | maker =>
      refine i_newO fun q hq => ?_
      unfold Thing.v
      walk_at "zgo"
      exact rest [] q hq (by simp) (by simp) _
    | stone =>
      refine i_newO fun q hq => ?_
      unfold Thing.v
      walk_at "zgo"
      exact rest [] q hq (by simp) (by simp) _
theorem i_popAt {l : Addr} {xs : List Val} {i : Int} {y : Val} {h : Hh} {Q : KQ} (e : h l = some (.lst xs)) (i0 : 0 ≤ i) (il : i < (xs.length : Int)) (b : xs.length ≤ 16000000) (hy : xs[i.toNat]? = some y) (q : Q y (hup h l (.lst (xs.eraseIdx i.toNat)))) : mPopAt (.ref l) [.int i] h Q :=
  ⟨l, xs, i, i.toNat, y, rfl, rfl, e, by omega, by omega, by
    unfold seqIndex?
    rw [if_neg (show ¬ i < 0 by omega)]
    simp [i0, il], hy, q⟩
theorem ixN_of {n : Nat} {i : Int} (i0 : 0 ≤ i) (il : i < (n : Int)) : L2.ixN n i = some i.toNat := by
  unfold L2.ixN
  rw [if_pos i0, if_pos il]
/-- new empty ones are put behind -/
theorem Own.appL {t g a : Addr} {h : Hh} {bs cs : List Addr} {ws : Rooms} (o : Own t g h a bs ws) (hc : ∀ c ∈ cs, h c = some (.lst [])) (nd : (a :: bs ++ cs).Nodup) (nt : t ∉ cs) (ng : g ∉ cs) :
    Own t g (hup h a (.lst (bs.map Val.ref ++ cs.map Val.ref))) a (bs ++ cs) (ws ++ List.replicate cs.length []) := by
  rw [← List.map_append]
  have hl := o.N.len
  refine ⟨Nest.outer (by simp at hl ⊢; omega) (fun i b xs e1 e2 => ?_) (by simpa using nd), fun z => ?_, fun z => ?_⟩
  · change (List.map thV (ws ++ List.replicate cs.length []))[i]? = some xs at e2
    have hl2 : bs.length = (ws.map thV).length := hl
    by_cases hi : i < bs.length
    · rw [List.getElem?_append_left hi] at e1
      rw [List.map_append, List.getElem?_append_left (by rw [← hl2]; exact hi)] at e2
      exact o.N.each i b xs e1 e2
    · rw [List.getElem?_append_right (by omega)] at e1
      rw [List.map_append, List.getElem?_append_right (by rw [← hl2]; omega), List.map_replicate, List.getElem?_replicate] at e2
      split at e2
      · cases e2
        exact hc b (List.mem_of_getElem? e1)
      · cases e2
  · have := o.nt
    simp at z this
    rcases z with z | z | z
    · exact this.1 z
    · exact this.2 z
    · exact nt z
  · have := o.ng
    simp at z this
    rcases z with z | z | z
    · exact this.1 z
    · exact this.2 z
    · exact ng z
def fs_law_spoil : FS where
  P := Addr × Addr × Int × Addr × List Addr × Rooms × Nat
  pre := fun (t, g, n, a, bs, ws, m) vs h => vs = [.ref t, .ref a] ∧ Tray h t g n ∧ n ≤ 100000000000 ∧ Own t g h a bs ws ∧ Bd m ws ∧ m ≤ 49
  post := fun (t, g, n, a, bs, ws, m) h v h' => ∃ bs' ws', v = .non ∧ Own t g h' a bs' ws' ∧ Bd (m + 1) ws' ∧ Tray h' t g (n + 200)
theorem c_law_spoil {t g a : Addr} {n : Int} {bs : List Addr} {ws : Rooms} {m : Nat} {h : Hh} {E : XQ} {Q : KQ} (T : Tray h t g n) (hn : n ≤ 100000000000) (o : Own t g h a bs ws) (bd : Bd m ws) (hm : m ≤ 49)
    (k : ∀ bs' ws' h', Own t g h' a bs' ws' → Bd (m + 1) ws' → Tray h' t g (n + 200) → Q .non h') : fs_law_spoil.sp [.ref t, .ref a] h E Q :=
  ⟨(t, g, n, a, bs, ws, m), ⟨rfl, T, hn, o, bd, hm⟩, fun v h' ⟨bs', ws', e, a, b, c⟩ => by subst e; exact k bs' ws' h' a b c, fun _ _ _ z => z.elim⟩
def r_law_spoil : WS :=
  wSeq (wAsg (wCall fs_law_draw [] (wCons (wVar 0) (wCons (wC (.int 12)) (wNil)))) (wgName 2))
  (wSeq (wAsg (wCall fs_law_draw [] (wCons (wVar 0) (wCons (wCB cMax2 (wCons (wC (.int 1)) (wCons (wCB cLen (wCons (wVar 1) (wNil))) (wNil)))) (wNil)))) (wgName 3))
  (wSeq (wAsg (wCall fs_law_draw [] (wCons (wVar 0) (wCons (wC (.int 2)) (wNil)))) (wgName 4))
  (wIf (wTv (wOp wEqS (wVar 2) (wC (.int 0)))) (wExpr (wBM0 "list" mClear (wVar 1))) (wIf (wTv (wOp wEqS (wVar 2) (wC (.int 1)))) (wExpr (wBM "list" mExtend (wVar 1) (wCons (wLc (wiR1 (wOp wSub (wOp wAdd (wC (.int 8)) (wVar 4)) (wCB cLen (wCons (wVar 1) (wNil))))) (tg1 5) wYes (wLst (wNil)) [5]) (wNil)))) (wIf (wAnd (wTv (wOp wEqS (wVar 2) (wC (.int 2)))) (wTv (wOp wNeD (wVar 1) (wLst (wNil))))) (wSeq (wAsg (wOp wSub (wOp wAdd (wC (.int 12)) (wVar 4)) (wCB cLen (wCons (wOp wIx (wVar 1) (wVar 3)) (wNil)))) (wgName 6))
  (wExpr (wBM "list" mExtend (wOp wIx (wVar 1) (wVar 3)) (wCons (wOp wRep (wLst (wCons (wTup (wCons (wC (.str "stone")) (wNil))) (wNil))) (wCB cMax2 (wCons (wC (.int 0)) (wCons (wVar 6) (wNil))))) (wNil))))) (wIf (wAnd (wTv (wOp wEqS (wVar 2) (wC (.int 3)))) (wTv (wOp wNeD (wVar 1) (wLst (wNil))))) (wExpr (wBM "list" mPopAt (wVar 1) (wCons (wVar 3) (wNil)))) (wIf (wAnd (wTv (wOp wEqS (wVar 2) (wC (.int 4)))) (wTv (wOp wNeD (wVar 1) (wLst (wNil))))) (wExpr (wBM "list" mInsert (wVar 1) (wCons (wOp wMul (wVar 4) (wCB cLen (wCons (wVar 1) (wNil)))) (wCons (wCB cList (wCons (wOp wIx (wVar 1) (wVar 3)) (wNil))) (wNil))))) (wIf (wAnd (wTv (wOp wEqS (wVar 2) (wC (.int 5)))) (wAnd (wTv (wOp wNeD (wVar 1) (wLst (wNil)))) (wTv (wOp wNeD (wOp wIx (wVar 1) (wVar 3)) (wLst (wNil)))))) (wExpr (wBM "list" mPopAt (wOp wIx (wVar 1) (wVar 3)) (wCons (wCall fs_law_draw [] (wCons (wVar 0) (wCons (wCB cLen (wCons (wOp wIx (wVar 1) (wVar 3)) (wNil))) (wNil)))) (wNil)))) (wIf (wAnd (wTv (wOp wGt (wVar 2) (wC (.int 5)))) (wAnd (wTv (wOp wNeD (wVar 1) (wLst (wNil)))) (wTv (wOp wNeD (wOp wIx (wVar 1) (wVar 3)) (wLst (wNil)))))) (wSeq (wAsg (wCall fs_law_spoilt_thing [] (wCons (wVar 0) (wCons (wVar 1) (wCons (wVar 3) (wNil))))) (wgUnl 2 (wgCons (wgName 7) (wgCons (wgName 8) (wgNil)))))
  (wAsg (wVar 8) (wgSub (wOp wIx (wVar 1) (wVar 3)) (wVar 7) wSetL (fun _ _ _ => False)))) (wNext))))))))))

theorem Bd.up {k : Nat} {ws : Rooms} (b : Bd k ws) : Bd (k + 1) ws := ⟨by have := b.len; omega, b.house, fun hs hh th ht => ⟨by have := (b.refs hs hh th ht).1; omega, (b.refs hs hh th ht).2⟩⟩
/-- a house is exchanged -/
theorem Bd.set {k : Nat} {ws : Rooms} {hs : List Thing} (b : Bd k ws) (i : Nat) (h1 : hs.length ≤ 13) (h2 : ∀ th ∈ hs, th.refs.length ≤ 13 + k ∧ th.Plain) : Bd k (ws.set i hs) :=
  ⟨by rw [List.length_set]; exact b.len, fun us hu => by
    rcases List.mem_or_eq_of_mem_set hu with hu | rfl
    · exact b.house us hu
    · exact h1, fun us hu => by
    rcases List.mem_or_eq_of_mem_set hu with hu | rfl
    · exact b.refs us hu
    · exact h2⟩
theorem Own.inner {t g a b : Addr} {h : Hh} {bs : List Addr} {ws : Rooms} (o : Own t g h a bs ws) {i : Nat} (e : bs[i]? = some b) (hs : List Thing) : Own t g (hup h b (.lst (hs.map Thing.v))) a bs (ws.set i hs) :=
  ⟨by have := o.N.inner e (hs.map Thing.v); rwa [show (thsV ws).set i (hs.map Thing.v) = thsV (ws.set i hs) by simp [thsV, thV, List.map_set]] at this, o.nt, o.ng⟩
theorem Own.tray {t g a b : Addr} {h : Hh} {bs : List Addr} {ws : Rooms} {n : Int} {x : Ob} (o : Own t g h a bs ws) (hb : b ∈ a :: bs) (T : Tray h t g n) : Tray (hup h b x) t g n :=
  T.hup (fun z => o.nt (z ▸ hb)) (fun z => o.ng (z ▸ hb))
theorem rd_law_spoil {K : Fr} {p vs h Q} {X : XQ} (gd : Good K Q) (q : fs_law_spoil.pre p vs h) (hp : ∀ v h', fs_law_spoil.post p h v h' → Q v h') :
    r_law_spoil (fun _ h' => Q .non h') Q (fun _ _ => False) (fun _ _ => False) (fun C v _ h' => X C v h') (startV ["tray", "houses", "way", "at", "edge", "k", "more", "number", "thing"] vs) h := by
  obtain ⟨t, g, n, a, bs, ws, m⟩ := p
  obtain ⟨rfl, T, hn, o, bd, hm⟩ := q
  have hp : ∀ bs' ws' h', Own t g h' a bs' ws' → Bd (m + 1) ws' → Tray h' t g (n + 200) → Q .non h' := fun bs' ws' h' a b c => hp _ _ ⟨bs', ws', rfl, a, b, c⟩
  have hlen := bd.len
  show r_law_spoil _ _ _ _ _ [some (.ref t), some (.ref a), none, none, none, none, none, none, none] h
  unfold r_law_spoil
  walk_at "zgo"
  refine c_law_draw T (by omega) (by decide) (by decide) fun way h1 w0 w1 T1 kp1 => ?_
  have o1 := o.keep kp1
  walk_at "zgo"
  refine o1.N.hs.len ?_
  walk_at "zgo"
  refine c_law_draw T1 (by omega) (by split <;> omega) (by split <;> omega) fun at0 h2 a0 a1 T2 kp2 => ?_
  have o2 := o1.keep kp2
  walk_at "zgo"
  refine c_law_draw T2 (by omega) (by decide) (by decide) fun edge h3 d0 d1 T3 kp3 => ?_
  have o3 := o2.keep kp3
  walk_at "zgo"
  have top3 := o3.N.top
  have hbl : (List.map Val.ref bs).length = ws.length := by have := o3.N.len; simpa using this
  have done : Q .non h3 := hp bs ws h3 o3 bd.up (T3.more (by omega))
  clear o o1 o2 kp1 kp2 kp3 T T1 T2
  have hway : way = 0 ∨ way = 1 ∨ way = 2 ∨ way = 3 ∨ way = 4 ∨ way = 5 ∨ 5 < way := by omega
  rcases hway with rfl | rfl | rfl | rfl | rfl | rfl | hw5
  · walk_at "zgo"
    refine i_clear top3 ?_
    refine hp [] [] _ ⟨Nest.clear, fun z => o3.nt (by simp at z; simp [z]), fun z => o3.ng (by simp at z; simp [z])⟩ ⟨by simp, by simp, by simp⟩ ((o3.tray (by simp) T3).more (by omega))
  · walk_at "zgo"
    rw [hbl]
    refine ⟨by omega, by omega, ?_⟩
    refine lc_inv (fun k acc h5 => k ≤ (8 + edge - (ws.length : Int)).toNat ∧ ∃ cs : List Addr, acc = cs.map Val.ref ∧ cs.length = k ∧ Own t g h5 a bs ws ∧ (∀ c ∈ cs, h5 c = some (.lst [])) ∧ (a :: bs ++ cs).Nodup ∧ t ∉ cs ∧ g ∉ cs ∧ Tray h5 t g (n + 3)) ⟨by omega, [], rfl, rfl, o3, by simp, by simpa using o3.N.nd, by simp, by simp, T3.more (by omega)⟩ ?_
    rintro k acc h5 ⟨hk, cs, rfl, hcl, o5, hc, nd, nt, ng, T5⟩
    refine ⟨trivial, fun hk2 => ?_, fun z hz => ?_⟩
    · rw [rng_len] at hk2
      have hkk : k = (8 + edge - (ws.length : Int)).toNat := by omega
      refine i_newF ?_
      have hbl := o5.N.len
      refine i_extend o5.N.top (.lst _) (by simp at hbl ⊢; omega) ?_
      have o6 := o5.appL hc nd nt ng
      refine hp _ _ _ o6 ⟨?_, fun hs hh => ?_, fun hs hh => ?_⟩ ((o5.tray (by simp) T5).more (by omega))
      · simp; omega
      · rcases List.mem_append.mp hh with hh | hh
        · exact bd.house hs hh
        · rw [(List.mem_replicate.mp hh).2]; simp
      · rcases List.mem_append.mp hh with hh | hh
        · exact bd.up.refs hs hh
        · rw [(List.mem_replicate.mp hh).2]; simp
    · obtain ⟨hk3, rfl⟩ := rng_get hz
      walk_at "zgo"
      refine i_newO fun c hcn => ?_
      obtain ⟨c1, c2⟩ := T5.new hcn
      have c3 := o5.N.fresh hcn
      have c4 : c ∉ cs := fun z => by have := hc c z; rw [hcn] at this; cases this
      refine ⟨by simp; omega, by omega, cs ++ [c], by simp, by simp [hcl], ⟨o5.N.keep fun d hd => hup_ne fun z => c3 (z ▸ hd), o5.nt, o5.ng⟩, fun d hd => ?_, ?_, by simp [nt, c1.symm], by simp [ng, c2.symm], T5.hup c1 c2⟩
      · rcases List.mem_append.mp hd with hd | hd
        · have hdc : d ≠ c := fun z => c4 (by rw [← z]; exact hd)
          rw [hup_ne hdc]; exact hc d hd
        · simp at hd; subst hd; exact hup_same
      · rw [← List.append_assoc, List.nodup_append]
        exact ⟨nd, by simp, fun x hx y hy => by
          simp at hy
          subst hy
          rintro rfl
          rcases List.mem_append.mp hx with hx | hx
          · exact c3 hx
          · exact c4 hx⟩
  all_goals
    by_cases hn : ws = []
    · subst hn
      have dv : Dv h3 (.ref a) (.list []) := o3.N.hs.dv
      walk_at "zgo"
      refine i_newF ?_
      refine i_neNil0 dv ?_
      walk_at "zgo"
      exact done
  all_goals
    have a2 : at0 < (ws.length : Int) := by
      have : 1 ≤ ws.length := by cases ws with
        | nil => exact absurd rfl hn
        | cons => simp
      split at a1 <;> omega
    obtain ⟨hs, e⟩ : ∃ hs, ws[at0.toNat]? = some hs := ⟨_, List.getElem?_eq_getElem (by omega)⟩
    have hmem : hs ∈ ws := List.mem_of_getElem? e
    obtain ⟨b, hb, hb2, hba⟩ := o3.N.at (i := at0.toNat) (xs := thV hs) (by rw [List.getElem?_map, e]; rfl)
    have hh13 := bd.house hs hmem
    have nenil : ∀ {Q : KQ}, Q (.bl true) h3 → wNeD (.ref a) (.lst []) h3 Q := fun {Q} k => by
      have lay := rooms_lay ws
      have dv := o3.N.hs.dv
      obtain ⟨w0, wr, hw⟩ : ∃ w0 wr, ws = w0 :: wr := by
        cases ws with
        | nil => exact absurd rfl hn
        | cons w0 wr => exact ⟨w0, wr, rfl⟩
      rw [show roomsD ws = .list (houseD w0 :: wr.map houseD) by rw [hw]; rfl] at lay dv
      exact i_neNil dv lay (by decide) k
    have bmem : b ∈ a :: bs := List.mem_cons_of_mem _ (List.mem_of_getElem? hb)
  · walk_at "zgo"
    refine i_newF (nenil ?_)
    walk_at "zgo"
    refine i_ixR top3 (atI_nat2 a0 (o3.N.val hb)) ?_
    walk_at "zgo"
    refine i_ixR top3 (atI_nat2 a0 (o3.N.val hb)) ?_
    walk_at "zgo"
    refine i_newF ?_
    walk_at "zgo"
    have htl : (thV hs).length = hs.length := by simp [thV]
    rw [htl]
    refine i_rep (.lst _) (by split <;> omega) (by split <;> omega) (by split <;> simp <;> omega) ?_
    refine i_newF ?_
    walk_at "zgo"
    have hm : ∀ k : Nat, (List.replicate k [Val.tup [Val.str (Str.ofString "stone")]]).flatten = (List.replicate k Thing.stone).map Thing.v := fun k => by
      induction k with
      | zero => rfl
      | succ k ih => rw [List.replicate_succ, List.replicate_succ, List.flatten_cons, ih]; rfl
    rw [hm]
    generalize hk : (if 12 + edge - (hs.length : Int) > 0 then 12 + edge - (hs.length : Int) else 0).toNat = k
    have hk2 : hs.length + k ≤ 13 := by rw [← hk]; split <;> omega
    refine i_extend hb2 (.lst _) (by simp [thV]; omega) ?_
    rw [show thV hs = hs.map Thing.v from rfl, ← List.map_append]
    refine hp _ _ _ (o3.inner hb _) (bd.up.set _ (by simp; exact hk2) fun th ht => ?_) ((o3.tray bmem T3).more (by omega))
    rcases List.mem_append.mp ht with ht | ht
    · exact bd.up.refs hs hmem th ht
    · rw [(List.mem_replicate.mp ht).2]
      exact ⟨by simp [Thing.refs], fun r hr => by simp [Thing.refs] at hr⟩
  · walk_at "zgo"
    refine i_newF (nenil ?_)
    walk_at "zgo"
    refine i_popAt top3 a0 (by rw [hbl]; omega) (by rw [hbl]; omega) (o3.N.val hb) ?_
    have N2 := o3.N.erase at0.toNat
    refine hp (bs.eraseIdx at0.toNat) (ws.eraseIdx at0.toNat) _ ⟨by rwa [show (thsV ws).eraseIdx at0.toNat = thsV (ws.eraseIdx at0.toNat) by simp only [thsV, List.eraseIdx_eq_take_drop_succ, List.map_append, List.map_take, List.map_drop]] at N2, fun z => ?_, fun z => ?_⟩ ⟨?_, fun us hu => bd.house us (List.mem_of_mem_eraseIdx hu), fun us hu => bd.up.refs us (List.mem_of_mem_eraseIdx hu)⟩ ((o3.tray (by simp) T3).more (by omega))
    · rcases List.mem_cons.mp z with z | z
      · exact o3.nt (by simp [z])
      · exact o3.nt (List.mem_cons_of_mem _ (List.mem_of_mem_eraseIdx z))
    · rcases List.mem_cons.mp z with z | z
      · exact o3.ng (by simp [z])
      · exact o3.ng (List.mem_cons_of_mem _ (List.mem_of_mem_eraseIdx z))
    · have := List.length_eraseIdx_le ws at0.toNat; omega
  · walk_at "zgo"
    refine i_newF (nenil ?_)
    walk_at "zgo"
    rw [hbl]
    refine i_mul (.inl ⟨by omega, by omega⟩) ?_
    walk_at "zgo"
    refine i_ixR top3 (atI_nat2 a0 (o3.N.val hb)) ?_
    walk_at "zgo"
    refine i_newO fun c hc => ?_
    obtain ⟨c1, c2⟩ := T3.new hc
    have c3 := o3.N.fresh hc
    have c4 : a ≠ c := fun z => c3 (by simp [z])
    walk_at "zgo"
    have hed : edge = 0 ∨ edge = 1 := by omega
    rcases hed with rfl | rfl
    · rw [Int.zero_mul]
      refine i_insert (by rw [hup_ne c4]; exact top3) (by rw [hbl]; omega) (by omega) (by omega) ?_
      have N2 := o3.N.front (xs := thV hs) hc
      refine hp (c :: bs) (hs :: ws) _ ⟨N2, fun z => ?_, fun z => ?_⟩ ⟨by simp; omega, fun us hu => ?_, fun us hu => ?_⟩ (((T3.hup c1 c2).hup (fun z => o3.nt (by simp [z])) (fun z => o3.ng (by simp [z]))).more (by omega))
      · have := o3.nt; simp at z this; rcases z with z | z | z; exact this.1 z; exact c1 z.symm; exact this.2 z
      · have := o3.ng; simp at z this; rcases z with z | z | z; exact this.1 z; exact c2 z.symm; exact this.2 z
      · rcases List.mem_cons.mp hu with rfl | hu
        · exact hh13
        · exact bd.house us hu
      · rcases List.mem_cons.mp hu with rfl | hu
        · exact bd.up.refs us hmem
        · exact bd.up.refs us hu
    · rw [Int.one_mul]
      refine i_insert (by rw [hup_ne c4]; exact top3) (by rw [hbl]; omega) (by omega) (by omega) ?_
      have N2 := o3.N.app (xs := thV hs) hc
      rw [Int.toNat_natCast, ← hbl, List.take_length, List.drop_length, List.append_nil]
      refine hp (bs ++ [c]) (ws ++ [hs]) _ ⟨by simpa [thsV] using N2, fun z => ?_, fun z => ?_⟩ ⟨by simp; omega, fun us hu => ?_, fun us hu => ?_⟩ (((T3.hup c1 c2).hup (fun z => o3.nt (by simp [z])) (fun z => o3.ng (by simp [z]))).more (by omega))
      · have := o3.nt; simp at z this; rcases z with z | z | z; exact this.1 z; exact this.2 z; exact c1 z.symm
      · have := o3.ng; simp at z this; rcases z with z | z | z; exact this.1 z; exact this.2 z; exact c2 z.symm
      · rcases List.mem_append.mp hu with hu | hu
        · exact bd.house us hu
        · simp at hu; subst hu; exact hh13
      · rcases List.mem_append.mp hu with hu | hu
        · exact bd.up.refs us hu
        · simp at hu; subst hu; exact bd.up.refs us hmem
  all_goals
    by_cases hne : hs = []
    · subst hne
      walk_at "zgo"
      refine i_newF (nenil ?_)
      walk_at "zgo"
      refine i_ixR top3 (atI_nat2 a0 (o3.N.val hb)) ?_
      walk_at "zgo"
      refine i_newF ?_
      refine i_neNil0 (.ref hb2 .nil) ?_
      walk_at "zgo"
      exact done
  all_goals
    have nehs : ∀ {Q : KQ}, Q (.bl true) h3 → wNeD (.ref b) (.lst []) h3 Q := fun {Q} k => by
      have lay := house_lay hs
      have dv : Dv h3 (.ref b) (houseD hs) := .ref hb2 (dvs_map Thing.dv hs)
      obtain ⟨w0, wr, hw⟩ : ∃ w0 wr, hs = w0 :: wr := by
        cases hs with
        | nil => exact absurd rfl hne
        | cons w0 wr => exact ⟨w0, wr, rfl⟩
      rw [show houseD hs = .list (w0.d :: wr.map Thing.d) by rw [hw]; rfl] at lay dv
      exact i_neNil dv lay (by decide) k
    have hpos : 1 ≤ hs.length := by cases hs with
      | nil => exact absurd rfl hne
      | cons => simp
  · walk_at "zgo"
    refine i_newF (nenil ?_)
    walk_at "zgo"
    refine i_ixR top3 (atI_nat2 a0 (o3.N.val hb)) ?_
    walk_at "zgo"
    refine i_newF (nehs ?_)
    walk_at "zgo"
    refine i_ixR top3 (atI_nat2 a0 (o3.N.val hb)) ?_
    walk_at "zgo"
    refine i_ixR top3 (atI_nat2 a0 (o3.N.val hb)) ?_
    walk_at "zgo"
    rw [show (thV hs).length = hs.length by simp [thV]]
    refine c_law_draw T3 (by omega) (by omega) (by omega) fun i h4 i0 i1 T4 kp4 => ?_
    have o4 := o3.keep kp4
    walk_at "zgo"
    have hb4 : h4 b = some (.lst (thV hs)) := o4.N.each at0.toNat b (thV hs) hb (by rw [List.getElem?_map, e]; rfl)
    refine i_popAt hb4 i0 (by simp [thV]; omega) (by simp [thV]; omega) (y := (hs[i.toNat]'(by omega)).v) (by simp [thV, List.getElem?_eq_getElem (show i.toNat < hs.length by omega)]) ?_
    rw [show (thV hs).eraseIdx i.toNat = (hs.eraseIdx i.toNat).map Thing.v by simp only [thV, List.eraseIdx_eq_take_drop_succ, List.map_append, List.map_take, List.map_drop]]
    refine hp _ _ _ (o4.inner hb _) (bd.up.set _ (by have := List.length_eraseIdx_le hs i.toNat; omega) fun th ht => bd.up.refs hs hmem th (List.mem_of_mem_eraseIdx ht)) ((o4.tray bmem T4).more (by omega))
  · walk_at "zgo"
    refine i_newF (nenil ?_)
    walk_at "zgo"
    refine i_ixR top3 (atI_nat2 a0 (o3.N.val hb)) ?_
    walk_at "zgo"
    refine i_newF (nehs ?_)
    walk_at "zgo"
    refine c_law_spoilt_thing T3 (by omega) o3 bd (by omega) a0 e hne fun i th h4 i0 i1 rl rp T4 kp4 => ?_
    have o4 := o3.keep kp4
    walk_at "zgo"
    refine i_ixR o4.N.top (atI_nat2 a0 (o4.N.val hb)) ?_
    walk_at "zgo"
    have hb4 : h4 b = some (.lst (thV hs)) := o4.N.each at0.toNat b (thV hs) hb (by rw [List.getElem?_map, e]; rfl)
    refine ⟨b, thV hs, i, i.toNat, rfl, rfl, hb4, ixN_of i0 (by simp [thV]; omega), ?_⟩
    rw [show (thV hs).set i.toNat th.v = (hs.set i.toNat th).map Thing.v by simp [thV, List.map_set]]
    refine hp _ _ _ (o4.inner hb _) (bd.up.set _ (by simp; omega) fun u hu => ?_) ((o4.tray bmem T4).more (by omega))
    rcases List.mem_or_eq_of_mem_set hu with hu | rfl
    · exact bd.up.refs hs hmem u hu
    · exact ⟨by omega, rp⟩
/-! LK2 -/


/-- a world made, or refused -/
theorem c_World_try {cl : Str → Addr} {v : Val} {ws : Rooms} {h : Hh} {E : XQ} {Q : KQ} (hs : HsAt h v ws) (s : SmallW ws) (k : okWorld ws = true → Q (worldV cl ws) h) (kx : okWorld ws = false → ∀ a, h a = none → E (cl "NoWorld") .non (hup h a (.ins (cl "World") []))) : ∀ a, h a = none → (fs_World___init__ cl).sp [.ref a, v] (hup h a (.ins (cl "World") [])) E (fun v h2 => v = .non ∧ MkEnd (cl "World") a h2 Q) := fun a ha => by
  refine ⟨(a, v, ws), ⟨rfl, hup_same, hs.up ha, s⟩, fun r h' ⟨ok, e1, e2⟩ => ?_, fun C r h' ⟨ok, e1, e2, e3⟩ => ?_⟩
  · subst e1 e2
    refine ⟨rfl, .inr ⟨_, hup_same, ?_⟩⟩
    rw [hup_hup, hdel_hup ha]
    exact k ok
  · subst e1 e2 e3
    exact kx ok a ha
theorem WorldOk.bd {ws : Rooms} (w : WorldOk ws) : Bd 0 ws := ⟨by have := w.most; omega, fun hs hh => by have := w.house hs hh; omega, fun hs hh th ht => ⟨by have := refs_ok (w.ok hs hh th ht); omega, fun r hr => by
  have o := w.ok hs hh th ht
  cases th with
  | shelf rs =>
    have := o.2 r hr
    cases r with
    | thing a b => exact ⟨a, b, rfl⟩
    | made a b c => exact this.elim
  | relay q =>
    simp [Thing.refs] at hr
    subst hr
    cases r with
    | thing a b => exact ⟨a, b, rfl⟩
    | made a b c => exact (show False from o).elim
  | _ => simp [Thing.refs] at hr⟩⟩
theorem Bd.pure {k : Nat} {ws : Rooms} (b : Bd k ws) (hk : k ≤ 100) {hs : List Thing} (h : hs ∈ ws) : PureV 4 (houseV hs) :=
  house_pure (by have := b.house hs h; omega) fun t ht => by have := (b.refs hs h t ht).1; omega
def r_law_k02 (cl : Str → Addr) : WS :=
  wSeq (wAsg (wCall fs_law_tray [] (wCons (wVar 0) (wNil))) (wgName 1))
  (wSeq (wFor (wiR1 (wOp wAdd (wC (.int 2)) (wCB cLen (wCons (wSl wSlL (wVar 0) (wNoPart) (wPart (wC (.int 8)))) (wNil))))) (wgName 2)
  (wSeq (wAsg (wCall fs_law_draw [] (wCons (wVar 1) (wCons (wC (.int 4)) (wNil)))) (wgName 3))
  (wSeq (wAsg (wCall fs_law_world_v1 [] (wCons (wVar 1) (wNil))) (wgName 4))
  (wSeq (wFor (wiR1 (wVar 3)) (wgName 5)
  (wExpr (wCall fs_law_spoil [] (wCons (wVar 1) (wCons (wVar 4) (wNil))))))
  (wSeq (wAsg (wLc (wiL (wVar 4)) (tg1 6) wYes (wCB cList (wCons (wVar 6) (wNil))) [6]) (wgName 7))
  (wSeq (wAsg (wC .non) (wgName 8))
  (wSeq (wAsg (wLst (wNil)) (wgName 9))
  (wSeq (wAsg (wC (.int 0)) (wgName 10))
  (wSeq (wTryAs [cl "NoWorld"] [] 11
  (wAsg (wMake (cl "World") (fs_World___init__ cl) [] (wCons (wVar 7) (wNil))) (wgName 8))
  (fun ea eC edd => wSeq (wAsg (wXf ea edd (wVar 11)) (wgName 10))
  (wAsg (wLst (wCons (wErrIs true ea edd 11) (wCons (wErrIs true ea edd 11) (wCons (wErrIs false ea edd 11) (wNil))))) (wgName 9))))
  (wSeq (wIf (wTv (wOp wNeD (wVar 7) (wVar 4))) (wRet (wC (.bl false))) (wNext))
  (wSeq (wIf (wAnd (wNot (wTv (wCall fs_law_good [] (wCons (wVar 4) (wNil))))) (wOr (wTv (wOp wNeD (wVar 9) (wLst (wCons (wC (.bl true)) (wCons (wC (.bl true)) (wCons (wC (.bl false)) (wNil))))))) (wTv (wNotN (wVar 10))))) (wRet (wC (.bl false))) (wNext))
  (wIf (wAnd (wTv (wCall fs_law_good [] (wCons (wVar 4) (wNil)))) (wOr (wTv (wOp wNeD (wVar 9) (wLst (wNil)))) (wNot (wTv (wCall (fs_law_told_v1 cl) [] (wCons (wVar 8) (wCons (wVar 4) (wNil)))))))) (wRet (wC (.bl false))) (wNext)))))))))))))
  (wRet (wC (.bl true))))

theorem rd_law_k02 {cl : Str → Addr} {vs h Q} (q : preL vs h) (hp : ∀ h', Q (.bl true) h') :
    r_law_k02 cl (fun _ h' => Q .non h') Q (fun _ _ => False) (fun _ _ => False) (fun _ _ _ _ => False) (startV ["script", "tray", "k", "spoils", "houses", "j", "things", "handed", "found", "refused", "what", "e"] vs) h := by
  obtain ⟨ns, rfl, hl, rfl⟩ := q
  show r_law_k02 _ _ _ _ _ _ [some (.scr (ns.map Val.int)), none, none, none, none, none, none, none, none, none, none, none] _
  unfold r_law_k02
  walk_at "zgo"
  refine c_law_tray hl fun t g h0 _ _ T0 kp0 => ?_
  walk_at "zgo"
  refine ⟨_, .scr _, i_newF ?_⟩
  have hcut : (cut (List.map Val.int ns) none (some 8)).length ≤ 8 := by
    unfold cut
    rw [List.length_take]
    have : HT.sIx (List.map Val.int ns).length (List.map Val.int ns).length (some 8) ≤ 8 := by
      simp [HT.sIx]; omega
    omega
  revert hcut
  generalize cut (List.map Val.int ns) none (some 8) = sc8
  intro hcut
  walk_at "zgo"
  refine for_inv (fun i ρ h' => (∃ a b c d e f g1 g2 g3 g4 : Option Val, ρ = [some (.scr (ns.map Val.int)), some (.ref t), a, b, c, d, e, f, g1, g2, g3, g4]) ∧ Tray h' t g (0 + 4000 * i) ∧ i ≤ 10) ⟨⟨_, _, _, _, _, _, _, _, _, _, rfl⟩, T0.more (by omega), by omega⟩ ?_
  rintro i ρ h1 ⟨⟨v1, v2, v3, v4, v5, v6, v7, v8, v9, v10, rfl⟩, T1, hi⟩
  refine ⟨trivial, fun _ => ?_, fun z hz => ?_⟩
  · walk_at "zgo"
    exact hp _
  obtain ⟨hi', rfl⟩ := rng_get hz
  have hi2 : i < 10 := by omega
  walk_at "zgo"
  refine c_law_draw T1 (by omega) (by decide) (by decide) fun sp h2 s0 s1 T2 kp2 => ?_
  walk_at "zgo"
  refine c_law_world_o T2 (by omega) fun ws0 a bs0 h3 ok T3 N3 kn => ?_
  have nt : ∀ c ∈ a :: bs0, c ≠ t ∧ c ≠ g := fun c hc => by
    obtain ⟨ne, gs, b, fold, cc, ht, hg, r⟩ := T2
    have := kn.new c hc
    exact ⟨fun z => (by subst z; rw [ht] at this; cases this), fun z => (by subst z; rw [hg] at this; cases this)⟩
  have o3 : Own t g h3 a bs0 ws0 := ⟨N3, fun z => (nt _ z).1 rfl, fun z => (nt _ z).2 rfl⟩
  walk_at "zgo"
  refine for_inv (fun j ρ h' => (∃ x : Option Val, ρ = [some (.scr (ns.map Val.int)), some (.ref t), some (.int (0 + (i : Int))), some (.int sp), some (.ref a), x, v5, v6, v7, v8, v9, v10]) ∧ j ≤ 3 ∧ ∃ bs ws, Own t g h' a bs ws ∧ Bd j ws ∧ Tray h' t g (0 + 4000 * i + 1 + 2500 + 200 * j)) ⟨⟨_, rfl⟩, by omega, bs0, ws0, o3, ok.bd, T3.more (by omega)⟩ ?_
  rintro j ρ h4 ⟨⟨x, rfl⟩, hj, bs, ws, o4, bd, T4⟩
  refine ⟨trivial, fun _ => ?_, fun z hz2 => ?_⟩
  rotate_left
  · obtain ⟨hj', rfl⟩ := rng_get hz2
    walk_at "zgo"
    refine c_law_spoil T4 (by omega) o4 bd (by omega) fun bs' ws' h5 o5 bd5 T5 => ?_
    exact ⟨⟨_, rfl⟩, by omega, bs', ws', o5, bd5, T5.more (by omega)⟩
  generalize hR : wSeq (wIf (wTv (wOp wNeD (wVar 7) (wVar 4))) _ _) _ = REST
  walk_at "zgo"
  have q4 := o4.N.hs
  have sm := bd_small bd (by omega)
  have hlen := bd.len
  obtain ⟨xs, sq, pr⟩ := o4.N.hs
  have hlx := paired_len pr
  refine its_lsq sq fun P0 hP0 => ?_
  refine lc_inv (fun k acc h5 => h5 = h4 ∧ acc = (ws.take k).map houseV) ⟨rfl, by simp⟩ ?_
  rintro k acc h5 ⟨rfl, rfl⟩
  refine ⟨hP0, fun hk => ?_, fun z hz3 => ?_⟩
  rotate_left
  · have hkl : k < ws.length := by rw [← hlx]; exact (List.getElem?_eq_some_iff.mp hz3).1
    have hgk : ws[k]? = some ws[k] := List.getElem?_eq_getElem hkl
    obtain ⟨z2, hz2, sz⟩ := paired_get pr hgk
    have ez : z2 = z := Option.some.inj (hz2.symm.trans hz3)
    subst ez
    walk_at "zgo"
    refine list_seqq sz.seqq (i_newF ?_)
    refine ⟨by simp; omega, rfl, ?_⟩
    rw [List.take_succ, hgk, List.map_append]
    rfl
  rw [List.take_of_length_le (by omega)]
  have lay := rooms_lay ws
  have bnd : (4000 * i + 2501 + 200 * j : Int) ≤ 4000 * (i + 1 : Nat) := by omega
  refine i_newF ?_
  walk_at "zgo"
  refine i_newF ?_
  walk_at "zgo"
  refine i_tryAs ?_
  walk_at "zgo"
  refine c_World_try (v := roomsV ws) (HsAt.frozen ws) sm (fun good => ?_) (fun good b hb => ?_)
  · walk_at "zgo"
    rw [← hR]
    walk_at "zgo"
    refine ne_same (d := roomsD ws) (roomsV_dv ws) q4.dv lay (by decide) ?_
    walk_at "zgo"
    refine c_law_good q4 bd (by omega) ?_
    rw [good]
    walk_at "zgo"
    refine c_law_good q4 bd (by omega) ?_
    rw [good]
    walk_at "zgo"
    refine i_newF ?_
    refine i_neNil0 (.lst .nil) ?_
    walk_at "zgo"
    refine c_law_told_v1 q4 sm (fun hs hh => bd.pure (by omega) hh) ?_
    walk_at "zgo"
    exact ⟨⟨_, _, _, _, _, _, _, _, _, _, rfl⟩, T4.more (by omega), by omega⟩
  · have b3 := o4.N.fresh hb
    obtain ⟨b1, b2⟩ := T4.new hb
    refine .inl ⟨List.mem_singleton.mpr rfl, fun ea edd hea => ?_⟩
    dsimp only [List.set]
    walk_at "zgo"
    refine i_newF ?_
    walk_at "zgo"
    dsimp only [List.set]
    have o6 : Own t g (hup h5 b (.ins (cl (Str.ofString "World")) [])) a bs ws := ⟨o4.N.keep fun c hc => hup_ne fun z => b3 (z ▸ hc), o4.nt, o4.ng⟩
    have q6 := o6.N.hs
    rw [← hR]
    walk_at "zgo"
    refine ne_same (d := roomsD ws) (roomsV_dv ws) q6.dv lay (by decide) ?_
    walk_at "zgo"
    refine c_law_good q6 bd (by omega) ?_
    rw [good]
    walk_at "zgo"
    refine i_newF ?_
    refine ne_same (n := 1) (d := .list [.bool true, .bool true, .bool false]) (.lst (.cons (.bl _) (.cons (.bl _) (.cons (.bl _) .nil)))) (.lst (.cons (.bl _) (.cons (.bl _) (.cons (.bl _) .nil)))) (LayD.list (n := 0) fun d hd => by
      simp only [List.mem_cons, List.not_mem_nil, or_false] at hd
      rcases hd with rfl | rfl | rfl <;> exact .bool 0 _) (by decide) ?_
    walk_at "zgo"
    refine c_law_good q6 bd (by omega) ?_
    rw [good]
    walk_at "zgo"
    exact ⟨⟨_, _, _, _, _, _, _, _, _, _, rfl⟩, (T4.hup b1 b2).more (by omega), by omega⟩
/-! ZJ -/
/-! texts -/
section
variable {X : Cx} {W : WX} {pos : Pos} {e : Expr} {te : WE}
/-! ### f-strings -/
def wFmt (te : WE) : WE := fun ρ h E Q => te ρ h E fun x h1 => (∃ y : Str, x = .str y ∧ y.length ≤ sizeLine ∧ Q (.str y) h1) ∨ ∃ i : Int, x = .int i ∧ i.natAbs.log2 < 1920 ∧ Q (.str (toString i)) h1
theorem zfmt (he : ZE X W e te) : ZE X W (.FormattedValue e (-1) none pos) (wFmt te) :=
  ⟨pe_imp (pe_fmt he.pe) fun σ H Q ⟨S, F, ρ, h, E', Q', r, rl, q, lq, lx⟩ =>
    ⟨S, F, ρ, h, E', _, r, rl, q, fun x h1 S1 w H1 q1 s1 r1 x1 => by
      rcases q1 with ⟨y, rfl, hz, q1⟩ | ⟨i, rfl, hz, q1⟩
      · exact .inl ⟨y, rel_str.mp x1, hz, lq _ _ _ _ _ q1 s1 r1 (rel_str.mpr rfl)⟩
      · exact .inr ⟨i, rel_int.mp x1, hz, lq _ _ _ _ _ q1 s1 r1 (rel_str.mpr rfl)⟩, lx⟩⟩
def wJsF : List WE → Str → Ev → Hh → XQ → (Str → Hh → Prop) → Prop
  | [], acc, _, h, _, Q => Q acc h
  | t :: ts, acc, ρ, h, E, Q => t ρ h E fun x h1 => ∃ y : Str, x = .str y ∧ (acc ++ y).length ≤ sizeLine ∧ wJsF ts (acc ++ y) ρ h1 E Q
def wJs (ts : List WE) : WE := fun ρ h E Q => wJsF ts Str.empty ρ h E fun out h1 => Q (.str out) h1
inductive ZPJ (X : Cx) (W : WX) : List Expr → List WE → Prop where
  | nil : ZPJ X W [] []
  | cons {e : Expr} {t : WE} {es : List Expr} {ts : List WE} (h : ZE X W e t) (r : ZPJ X W es ts) : ZPJ X W (e :: es) (t :: ts)
theorem zpj_nil : ZPJ X W [] [] := .nil
theorem zpj_cons {t : WE} {es : List Expr} {ts : List WE} (h : ZE X W e t) (r : ZPJ X W es ts) : ZPJ X W (e :: es) (t :: ts) := .cons h r
theorem ZPJ.pj : ∀ {es : List Expr} {ts : List WE}, ZPJ X W es ts → PJ X es (ts.map (lE X.K W))
  | _, _, .nil => .nil
  | _, _, .cons h r => .cons h.pe r.pj
theorem js_l {K : Fr} {W : WX} : ∀ (ts : List WE) {acc : Str} {S F : Hp} {ρ : Ev} {σ : L2.St} {h : Hh} {H : Hp} {E' : XQ} {Q' : Str → Hh → Prop} {Q : Str → Hp → Prop}, R K S F H h → Rls K S ρ σ → wJsF ts acc ρ h E' Q' →
    (∀ out h' S' H', Q' out h' → Sub S S' → R K S' F H' h' → Q out H') → LX K S F E' W σ → tJs (ts.map (lE K W)) acc σ H Q
  | [], acc, S, F, ρ, σ, h, H, E', Q', Q, r, rl, q, lq, lx => lq _ _ _ _ q (Sub.refl S) r
  | t :: ts, acc, S, F, ρ, σ, h, H, E', Q', Q, r, rl, q, lq, lx => by
    show lE K W t σ H _
    refine ⟨S, F, ρ, h, E', _, r, rl, q, fun x h1 S1 w H1 q1 s1 r1 x1 => ?_, lx⟩
    obtain ⟨y, rfl, hz, q1⟩ := q1
    exact ⟨y, rel_str.mp x1, hz, js_l ts r1 (rl.mono s1) q1 (fun out h' S' H' z e' r' => lq out h' S' H' z (s1.trans e') r') (lx.mono s1)⟩
theorem zjoined {v1 v2 : Expr} {rest : List Expr} {ts : List WE} (h : ZPJ X W (v1 :: v2 :: rest) ts) : ZE X W (.JoinedStr (v1 :: v2 :: rest) pos) (wJs ts) :=
  ⟨pe_imp (pe_joined h.pj) fun σ H Q ⟨S, F, ρ, h, E', Q', r, rl, q, lq, lx⟩ => js_l ts r rl q (fun out h' S' H' z e' r' => lq _ _ _ _ _ z e' r' (rel_str.mpr rfl)) lx⟩
theorem zjoined1 (he : ZE X W e te) : ZE X W (.JoinedStr [e] pos) te := ⟨pe_joined1 he.pe⟩
end
/-! ### split, partition, signs, slices, int -/
def mSplit : WM := fun x vs h Q => ∃ a b : Str, x = .str a ∧ vs = [.str b] ∧ (b.length == 0) = false ∧ a.length + 2 ≤ sizeLine ∧ NewL ((Txt.split a b).map Val.str) h Q
theorem s_split {K : Fr} : SndM K mSplit (fun x xs H Q => ∃ a b, x = V.str a ∧ xs = [V.str b] ∧ (b.length == 0) = false ∧ a.length + 2 ≤ sizeLine ∧ rNewStrs (Txt.split a b) H Q) := fun S F H h x v xs vs Q' Q r rx rxs q lq => by
  obtain ⟨a, b, rfl, rfl, h1, h2, q⟩ := q
  obtain ⟨w, rfl, x1⟩ := rels_1 rxs
  exact ⟨a, b, rel_str.mp rx, by rw [rel_str.mp x1], h1, h2, fun p hp => newl r (Rels.strs.mpr rfl) q lq hp⟩
def mPartition : WM := fun x vs h Q => ∃ a b : Str, x = .str a ∧ vs = [.str b] ∧ (b.length == 0) = false ∧ a.length ≤ sizeLine ∧ Q (.tup [.str (Txt.partition a b).1, .str (Txt.partition a b).2.1, .str (Txt.partition a b).2.2]) h
theorem s_partition {K : Fr} : SndM K mPartition (fun x xs H Q => ∃ a b, x = V.str a ∧ xs = [V.str b] ∧ (b.length == 0) = false ∧ a.length ≤ sizeLine ∧
    ∀ p, H p = none → Q (V.ref p) (upd H p (.tup [.str (Txt.partition a b).1, .str (Txt.partition a b).2.1, .str (Txt.partition a b).2.2]))) := fun S F H h x v xs vs Q' Q r rx rxs q lq => by
  obtain ⟨a, b, rfl, rfl, h1, h2, q⟩ := q
  obtain ⟨w, rfl, x1⟩ := rels_1 rxs
  exact ⟨a, b, rel_str.mp rx, by rw [rel_str.mp x1], h1, h2, fun p hp => newt r (rels_cons.mpr ⟨_, _, rfl, rel_str.mpr rfl, rels_cons.mpr ⟨_, _, rfl, rel_str.mpr rfl, Rels.one (rel_str.mpr rfl)⟩⟩) q lq hp⟩
def wInSign : W2 := fun x y h Q => ∃ (c : Nat) (z : Str), x = .str ⟨#[c]⟩ ∧ y = .str z ∧ Q (.bl (decide (c ∈ z.cps.toList))) h
def wNotInSign : W2 := fun x y h Q => ∃ (c : Nat) (z : Str), x = .str ⟨#[c]⟩ ∧ y = .str z ∧ Q (.bl (!decide (c ∈ z.cps.toList))) h
theorem s_inSign {K : Fr} : Snd2 K wInSign (fun x y H Q => ∃ (c : Nat) (z : Str), x = V.str ⟨#[c]⟩ ∧ y = V.str z ∧ Q (.bl (decide (c ∈ z.cps.toList))) H) := fun S F H h x y v w Q' Q r rx ry q lq => by
  obtain ⟨c, z, rfl, rfl, q⟩ := q
  exact ⟨c, z, rel_str.mp rx, rel_str.mp ry, lq _ _ S _ _ q (Sub.refl S) r (rel_bl.mpr rfl)⟩
theorem s_notInSign {K : Fr} : Snd2 K wNotInSign (fun x y H Q => ∃ (c : Nat) (z : Str), x = V.str ⟨#[c]⟩ ∧ y = V.str z ∧ Q (.bl (!decide (c ∈ z.cps.toList))) H) := fun S F H h x y v w Q' Q r rx ry q lq => by
  obtain ⟨c, z, rfl, rfl, q⟩ := q
  exact ⟨c, z, rel_str.mp rx, rel_str.mp ry, lq _ _ S _ _ q (Sub.refl S) r (rel_bl.mpr rfl)⟩
def wSlS : W3 := fun x lo hi h Q => ∃ z : Str, x = .str z ∧ z.length ≤ sizeLine ∧ Q (.str (cutS z lo hi)) h
theorem s_slS {K : Fr} : Snd3 K wSlS rSlS := fun S F H h x v lo hi Q' Q r rx q lq => by
  obtain ⟨z, rfl, hz, q⟩ := q
  exact ⟨z, rel_str.mp rx, hz, lq _ _ S _ _ q (Sub.refl S) r (rel_str.mpr rfl)⟩
def cIntS : WC := fun vs h Q => ∃ (a : Str) (n : Int), vs = [.str a] ∧ PySem.intText? a = some n ∧ a.length ≤ 640 ∧ Q (.int n) h
theorem s_intS {K : Fr} : SndC K cIntS (fun xs H Q => ∃ a n, xs = [V.str a] ∧ PySem.intText? a = some n ∧ a.length ≤ 640 ∧ Q (V.int n) H) := fun S F H h xs vs Q' Q r rx q lq => by
  obtain ⟨a, n, rfl, h1, h2, q⟩ := q
  obtain ⟨w, rfl, x1⟩ := rels_1 rx
  exact ⟨a, n, by rw [rel_str.mp x1], h1, h2, lq _ _ S _ _ q (Sub.refl S) r (rel_int.mpr rfl)⟩
/-! ### steps -/
theorem i_addS {x y : Str} {h : Hh} {Q : KQ} (hz : x.length + y.length ≤ 16000000) (q : Q (.str (x ++ y)) h) : wAddS (.str x) (.str y) h Q := ⟨x, y, rfl, rfl, by have := sizeLine_eq; omega, q⟩
theorem i_str {i : Int} {h : Hh} {Q : KQ} (hz : i.natAbs.log2 < 1920) (q : Q (.str (toString i)) h) : cStr [.int i] h Q := ⟨i, rfl, hz, q⟩
theorem i_fmtI {te : WE} {ρ h E} {Q : KQ} (q : te ρ h E fun x h1 => (∃ y : Str, x = .str y ∧ y.length ≤ sizeLine ∧ Q (.str y) h1) ∨ ∃ i : Int, x = .int i ∧ i.natAbs.log2 < 1920 ∧ Q (.str (toString i)) h1) : wFmt te ρ h E Q := q
theorem i_fInt {i : Int} {A : Prop} {P : Int → Prop} (hz : i.natAbs.log2 < 1920) (q : P i) : A ∨ ∃ j : Int, Val.int i = .int j ∧ j.natAbs.log2 < 1920 ∧ P j := .inr ⟨i, rfl, hz, q⟩
theorem i_js {ts : List WE} {ρ h E} {Q : KQ} (q : wJsF ts Str.empty ρ h E fun out h1 => Q (.str out) h1) : wJs ts ρ h E Q := q
theorem i_jsc {t : WE} {ts : List WE} {acc : Str} {ρ h E} {Q : Str → Hh → Prop} (q : t ρ h E fun x h1 => ∃ y : Str, x = .str y ∧ (acc ++ y).length ≤ sizeLine ∧ wJsF ts (acc ++ y) ρ h1 E Q) : wJsF (t :: ts) acc ρ h E Q := q
theorem i_jsn {acc : Str} {ρ h E} {Q : Str → Hh → Prop} (q : Q acc h) : wJsF [] acc ρ h E Q := q
theorem i_jsy {acc y : Str} {P : Str → Prop} (hz : acc.length + y.length ≤ 16000000) (q : P y) : ∃ z : Str, Val.str y = .str z ∧ (acc ++ z).length ≤ sizeLine ∧ P z := ⟨y, rfl, by rw [PySem.Str.length_append]; have := sizeLine_eq; omega, q⟩
theorem i_join {a : Str} {l : Val} {ys : List Str} {h : Hh} {Q : KQ} (st : SeqT h l (ys.map Val.str)) (hz : (ys.map (·.length)).sum + ys.length * a.length ≤ 16777216) (q : Q (.str (Txt.join a ys)) h) : mJoin (.str a) [l] h Q := ⟨a, l, ys, rfl, rfl, st, hz, q⟩
theorem i_split {a b : Str} {h : Hh} {Q : KQ} (hb : (b.length == 0) = false) (hz : a.length ≤ 16000000) (q : NewL ((Txt.split a b).map Val.str) h Q) : mSplit (.str a) [.str b] h Q := ⟨a, b, rfl, rfl, hb, by have := sizeLine_eq; omega, q⟩
theorem i_partition {a b : Str} {h : Hh} {Q : KQ} (hb : (b.length == 0) = false) (hz : a.length ≤ 16000000) (q : Q (.tup [.str (Txt.partition a b).1, .str (Txt.partition a b).2.1, .str (Txt.partition a b).2.2]) h) : mPartition (.str a) [.str b] h Q := ⟨a, b, rfl, rfl, hb, by have := sizeLine_eq; omega, q⟩
theorem i_slS {z : Str} {lo hi : Option Int} {h : Hh} {Q : KQ} (hz : z.length ≤ 16000000) (q : Q (.str (cutS z lo hi)) h) : wSlS (.str z) lo hi h Q := ⟨z, rfl, by have := sizeLine_eq; omega, q⟩
theorem i_intS {a : Str} {n : Int} {h : Hh} {Q : KQ} (e : PySem.intText? a = some n) (hz : a.length ≤ 640) (q : Q (.int n) h) : cIntS [.str a] h Q := ⟨a, n, rfl, e, hz, q⟩
theorem i_lenS {z : Str} {h : Hh} {Q : KQ} (hz : z.length ≤ 16000000) (k : Q (.int (z.length : Int)) h) : cLen [.str z] h Q := ⟨_, _, rfl, .str (by have := sizeLine_eq; omega), k⟩
theorem i_tyS {h : Hh} {z : Str} {A : Prop} (q : A) : TyM h "str" (.str z) ∧ A := ⟨.str z, q⟩
theorem i_iS {t : WE} {ρ h E} {G : List Val → (Hh → Prop) → Hh → Prop} (q : t ρ h E fun v h1 => ∃ x : Str, v = .str x ∧ G (x.cps.toList.map sgn) (fun _ => True) h1) : wiS t ρ h E G := q
theorem i_str1 {z : Str} {A : Str → Prop} (q : A z) : ∃ j, Val.str z = .str j ∧ A j := ⟨z, rfl, q⟩
/-! ZK -/
/-! str and == of an own instance -/
section
variable {X : Cx} {W : WX} {pos : Pos}
def rStrO (C : Addr) (sp : L2.Sp) : List V → Hp → VK → Prop := fun xs H Q => ∃ a dx fs, xs = [V.ref a] ∧ H a = some (.ins C dx fs) ∧ sp [.ref a] H (fun v H' => ∃ z : Str, v = .str z ∧ Q (.str z) H') (fun _ _ _ => False)
theorem call_strO {k : Nat} {C f : Addr} {fd : FuncData} {ps : List Str} {sp : L2.Sp} (F : FnOk X.prog X.w X.K X.mg X.base (L2.CX X.prog X.w) k f fd ps sp) (hm : Meth X.K C "__str__" f) (hb : Binds X.K fd ps []) (hr : Room (k + 2) X.A) : CallR X (.type "str") (rStrO C sp) := by
  intro pins s σ H xs us Q I r h
  obtain ⟨a, dx, fs, rfl, ha, hsp⟩ := h
  cases r with
  | cons ra rr =>
    cases rr
    cases ra
    obtain ⟨mA, J, _⟩ := ins_get I.hok ha
    obtain ⟨od, J, _⟩ := J.look
    refine PySem.W.kso_call hr.in1.in1.units0 I.kIn J hm.at_ hm.fn ?_
    have hl := F.len _ _ _ _ hsp
    have r2 : Vals [V.ref a] [Value.ref a] := .cons rfl .nil
    refine wpAny_call (codeAny_mono (F.run X.A.in1.in1 X.stack s H ⟨[.ref a], []⟩ [.ref a] [.ref a] _ _ hr.in1.in1 I.env0.in1.in1 (by
      have := hb s [.ref a] I.kIn (by simpa using hl)
      simpa using this) r2 hsp) fun r s' hq => ?_)
    cases r with
    | error e => exact passL pins σ H s e s' I hq
    | ok fl =>
      cases fl with
      | ret w =>
        obtain ⟨z, H', I', rz, n, ez, q⟩ := I.after hq
        subst ez
        obtain ⟨t, rfl⟩ := rz
        exact ⟨.str n, H', I', ⟨_, rfl⟩, q⟩
      | next => exact False.elim hq
      | brk => exact False.elim hq
      | cont => exact False.elim hq
def cStrO (C : Addr) (fs : FS) : WC := fun vs h Q => ∃ x fl, vs = [x] ∧ Ins h x C fl ∧ fs.sp [x] h (fun _ _ _ => False) (fun v h' => ∃ z : Str, v = .str z ∧ Q (.str z) h')
theorem s_strO {K : Fr} {C : Addr} {fs : FS} : SndC K (cStrO C fs) (rStrO C (lSp K fs)) := fun S F H h xs vs Q' Q r rx q lq => by
  obtain ⟨x, fl, rfl, q1, q⟩ := q
  obtain ⟨w, rfl, x1⟩ := rels_1 rx
  obtain ⟨a, dx, gs, e1, e2, e3⟩ := q1.l r x1
  subst e1
  refine ⟨a, dx, gs, rfl, e2, S, F, _, h, _, _, r, rx, q, fun v h' S' w H' q1 s1 r1 x2 => ?_, fun _ _ _ _ _ _ _ z => z.elim⟩
  obtain ⟨n, rfl, q1⟩ := q1
  exact ⟨n, rel_str.mp x2, lq _ _ _ _ _ q1 s1 r1 (rel_str.mpr rfl)⟩
theorem zstrO {k : Nat} {C : Addr} {ps : List Str} {fs : FS} {p : Pos} {e : Expr} {t : WA} (G : Mt X.prog X.w X.K X.mg X.base C "__str__" k ps [] fs) (hr : Room (k + 2) X.A) (hg : Gl X "str") (hm : X.mg "str" = none) (ha : ZA X W [e] t)
    (he : starEach [e] X.env = (false, eval e X.env) :: starEach [] X.env := by rfl) (hpl : (backTo pos (starEach [] X.env)).any (·.1) = false := by rfl) : ZE X W (.Call (.Name "str" p) [e] [] pos) (wCB (cStrO C fs) t) := by
  obtain ⟨f, fd, dvs, ds, F, hmm, hd, hdv, hb⟩ := G.ex
  have e0 : dvs = [] := rels_nil.mp (hdv fun _ => none)
  subst e0
  cases hd
  exact zcallTy (call_strO F hmm hb hr) s_strO hg hm PySem.Pv.boot_str ha (by decide) (by decide) he hpl
/-! ### == -/
def rEqO (C : Addr) (sp : L2.Sp) : R2 := fun x y H Q => ∃ a dx fs b dy gs, x = .ref a ∧ y = .ref b ∧ H a = some (.ins C dx fs) ∧ H b = some (.ins C dy gs) ∧ sp [x, y] H (fun v H' => ∃ c : Bool, v = .bl c ∧ Q (.bl c) H') (fun _ _ _ => False)
theorem op_eqO {k : Nat} {C f : Addr} {fd : FuncData} {ps : List Str} {sp : L2.Sp} (F : FnOk X.prog X.w X.K X.mg X.base (L2.CX X.prog X.w) k f fd ps sp) (hm : Meth X.K C "__eq__" f) (hb : Binds X.K fd ps []) (hr : Room (k + 1) X.A) : OpR X (compareOp .Eq) (rEqO C sp) := by
  intro pins s σ H x y v u Q I rx ry h
  obtain ⟨a, dx, fs, b, dy, gs, rfl, rfl, ha, hb2, hsp⟩ := h
  cases rx
  cases ry
  obtain ⟨mA, J, _⟩ := ins_get I.hok ha
  obtain ⟨od, J, _⟩ := J.look
  obtain ⟨mB, J', _⟩ := ins_get I.hok hb2
  obtain ⟨od', J', _⟩ := J'.look
  obtain ⟨m, hF⟩ := I.fr
  show wpAny _ _ (richCompare .Eq (.ref a) (.ref b)) _ _ _
  refine PySem.W.cmp_K (op := .Eq) (tb := .ref C) hr.units0 hF I.ok.mod.kin J J'.type (by unfold PySem.W.notFirst; simp) hm.at_ hm.fn ?_
  have hl := F.len _ _ _ _ hsp
  have r2 : Vals [V.ref a, V.ref b] [Value.ref a, Value.ref b] := .cons rfl (.cons rfl .nil)
  refine wpAny_call (codeAny_mono (F.run X.A X.stack s H ⟨[.ref a, .ref b], []⟩ [.ref a, .ref b] [.ref a, .ref b] _ _ (hr.mono (Nat.le_succ _)) I.env0 (by
    have := hb s [.ref a, .ref b] I.kIn (by simpa using hl)
    simpa using this) r2 hsp) fun r s' hq => ?_)
  cases r with
  | error e => exact passL pins σ H s e s' I hq
  | ok fl =>
    cases fl with
    | ret w =>
      obtain ⟨z, H', I', rz, n, ez, q⟩ := I.after hq
      subst ez
      cases rz
      exact ⟨.bl n, H', I', rfl, q⟩
    | next => exact False.elim hq
    | brk => exact False.elim hq
    | cont => exact False.elim hq
def wEqO (C : Addr) (fs : FS) : W2 := fun x y h Q => ∃ fl gl, Ins h x C fl ∧ Ins h y C gl ∧ fs.sp [x, y] h (fun _ _ _ => False) (fun v h' => ∃ c : Bool, v = .bl c ∧ Q (.bl c) h')
theorem s_eqO {K : Fr} {C : Addr} {fs : FS} : Snd2 K (wEqO C fs) (rEqO C (lSp K fs)) := fun S F H h x y v w Q' Q r rx ry q lq => by
  obtain ⟨fl, gl, q1, q2, q⟩ := q
  obtain ⟨a, dx, gs, e1, e2, e3⟩ := q1.l r rx
  obtain ⟨b, dy, us, g1, g2, g3⟩ := q2.l r ry
  subst e1 g1
  refine ⟨a, dx, gs, b, dy, us, rfl, rfl, e2, g2, S, F, _, h, _, _, r, rels_cons.mpr ⟨_, _, rfl, rx, Rels.one ry⟩, q, fun v h' S' w H' q1 s1 r1 x2 => ?_, fun _ _ _ _ _ _ _ z => z.elim⟩
  obtain ⟨n, rfl, q1⟩ := q1
  exact ⟨n, rel_bl.mp x2, lq _ _ _ _ _ q1 s1 r1 (rel_bl.mpr rfl)⟩
/-- what a class' == is: from its promise -/
theorem op_eqOG {k : Nat} {C : Addr} {ps : List Str} {fs : FS} (G : Mt X.prog X.w X.K X.mg X.base C "__eq__" k ps [] fs) (hr : Room (k + 1) X.A) : OpR X (compareOp .Eq) (rEqO C (lSp X.K fs)) := by
  obtain ⟨f, fd, dvs, ds, F, hmm, hd, hdv, hb⟩ := G.ex
  have e0 : dvs = [] := rels_nil.mp (hdv fun _ => none)
  subst e0
  cases hd
  exact op_eqO F hmm hb hr
end
/-! ### try where the body raises nothing -/
def wTryThru (t : WS) : WS := fun nx rt bk ct _ ρ h => t nx rt bk ct (fun _ _ _ _ => False) ρ h
theorem zs_try_thru {X : Cx} {W : WX} {pos : Pos} {body : List Stmt} {h₀ : ExceptHandler} {hs : List ExceptHandler} {t : WS} (hb : ZB X.nox WF body t) : ZS X W (.Try body (h₀ :: hs) [] [] pos) (wTryThru t) :=
  ⟨ps_imp (ps_try_thru0 hb.pss) fun D σ H ⟨S, F, ρ, h, nx, rt, bk, ct, xe, r, rl, q, ln, lr, lb, lc, lx⟩ => ⟨S, F, ρ, h, nx, rt, bk, ct, _, r, rl, q, ln, lr, lb, lc, lxs_no⟩⟩
theorem i_tryThru {t : WS} {nx : EH} {rt : KQ} {bk ct : EH} {xe : XS} {ρ : Ev} {h : Hh} (q : t nx rt bk ct (fun _ _ _ _ => False) ρ h) : wTryThru t nx rt bk ct xe ρ h := q
/-! ### tuples cut and put together -/
def wSlT : W3 := fun x lo hi h Q => ∃ xs, x = .tup xs ∧ Q (.tup (cut xs lo hi)) h
theorem s_slT {K : Fr} : Snd3 K wSlT (rSlA K) := fun S F H h x v lo hi Q' Q r rx q lq => by
  obtain ⟨xs, rfl, q⟩ := q
  rw [rel_tup] at rx
  obtain ⟨a, ws, rfl, h1, h2⟩ := rx
  have e2 : cutV ws lo hi = cut ws lo hi := rfl
  have rc : Rels K S (cut xs lo hi) (cut ws lo hi) := by
    unfold cut
    rw [h2.length]
    exact (h2.drop _).take _
  refine ⟨a, ws, rfl, .of (r.sub _ _ h1), fun hw => ?_, fun hw p hp => ?_⟩
  · have e : cut xs lo hi = xs := by
      unfold cut
      rw [h2.length, hw.1, hw.2, List.drop_zero, Nat.sub_zero, ← h2.length, List.take_length]
    rw [e] at q
    exact lq _ _ S _ _ q (Sub.refl S) r (rel_tup.mpr ⟨a, ws, rfl, h1, h2⟩)
  · rw [e2]
    exact newt r rc q lq hp
def wCatT : W2 := fun x y h Q => ∃ xs ys, x = .tup xs ∧ y = .tup ys ∧ small (xs.length + ys.length) ∧ Q (.tup (xs ++ ys)) h
theorem s_catT {K : Fr} : Snd2 K wCatT (rCatA K) := fun S F H h x y v w Q' Q r rx ry q lq => by
  obtain ⟨xs, ys, rfl, rfl, hz, q⟩ := q
  have rx0 := rx
  have ry0 := ry
  rw [rel_tup] at rx ry
  obtain ⟨a, us, rfl, h1, h2⟩ := rx
  obtain ⟨b, ws, rfl, h3, h4⟩ := ry
  refine ⟨a, b, us, ws, rfl, rfl, .of (r.sub _ _ h1), .of (r.sub _ _ h3), by rw [← h2.length, ← h4.length]; exact hz.line, fun e => ?_, fun _ e => ?_, fun _ _ p hp => newt r (h2.app h4) q lq hp⟩
  · have : xs = [] := List.length_eq_zero_iff.mp (by rw [h2.length, e]; rfl)
    subst this
    exact lq _ _ S _ _ q (Sub.refl S) r ry0
  · have : ys = [] := List.length_eq_zero_iff.mp (by rw [h4.length, e]; rfl)
    subst this
    rw [List.append_nil] at q
    exact lq _ _ S _ _ q (Sub.refl S) r rx0
theorem i_slT {xs : List Val} {lo hi : Option Int} {h : Hh} {Q : KQ} (q : Q (.tup (cut xs lo hi)) h) : wSlT (.tup xs) lo hi h Q := ⟨xs, rfl, q⟩
theorem i_catT {xs ys : List Val} {h : Hh} {Q : KQ} (hz : xs.length + ys.length ≤ 16000000) (q : Q (.tup (xs ++ ys)) h) : wCatT (.tup xs) (.tup ys) h Q := ⟨xs, ys, rfl, rfl, hz, q⟩
theorem hu65 {k : Nat} {A : Around} (hr : Room k A) : A.units + 65 < cLine := by have := hr.un; omega
/-! LT0 -/
open TL
/-! ### texts of numbers, refs, things, houses: plain law -/
/-- a number's text -/
abbrev iT (i : Int) : Str := toString i
def iL (i : Int) : List Nat := if 0 ≤ i then numL i.toNat else 45 :: numL (-i).toNat
theorem tl_iT (i : Int) : tl (iT i) = iL i := by
  unfold iL
  by_cases h : 0 ≤ i
  · rw [if_pos h]
    obtain ⟨n, rfl⟩ := Int.eq_ofNat_of_zero_le h
    exact tl_num n
  · rw [if_neg h]
    obtain ⟨n, rfl⟩ : ∃ n : Nat, i = -((n + 1 : Nat) : Int) := ⟨(-i).toNat - 1, by omega⟩
    have e : (-(-((n + 1 : Nat) : Int))).toNat = n + 1 := by omega
    rw [e]
    show tl (Str.ofString (toString (Int.negSucc n))) = _
    rw [tl_ofString]
    show ("-" ++ toString (n + 1)).toList.map Char.toNat = _
    rw [String.toList_append, List.map_append]
    show 45 :: (toString (n + 1)).toList.map Char.toNat = _
    show 45 :: (Nat.repr (n + 1)).toList.map Char.toNat = _
    rw [Nat.toList_repr]
    rfl
def numB (l : List Nat) : Bool := decide (1 ≤ l.length) && decide (l.length ≤ 60) && l.all (fun c => decide (48 ≤ c ∧ c ≤ 57)) && (decide (l.length = 1) || decide (l.head? ≠ some 48))
theorem numB_digits {l : List Nat} (h : numB l = true) : NumText.AllDigits l := by
  unfold numB at h
  simp only [Bool.and_eq_true, List.all_eq_true, decide_eq_true_eq] at h
  exact h.1.2
theorem numB_len {l : List Nat} (h : numB l = true) : 1 ≤ l.length ∧ l.length ≤ 60 := by
  unfold numB at h
  simp only [Bool.and_eq_true, decide_eq_true_eq] at h
  exact h.1.1
theorem numB_int {z : Str} (h : numB (tl z) = true) : PySem.intText? z = some ((NumText.digitsVal (tl z) : Nat) : Int) ∧ z.length ≤ 60 := by
  have l := numB_len h
  rw [← len_tl] at l
  exact ⟨intText_digits (numB_digits h) (fun e => by rw [len_tl, show tl z = z.cps.toList from rfl, e] at l; simp at l) (by omega), l.2⟩
theorem numL_head {n : Nat} (h : 1 ≤ n) : (numL n).head? ≠ some 48 := by
  induction n using Nat.strongRecOn with
  | _ n ih =>
    by_cases c : n < 10
    · rw [numL_lt c]
      simp
      omega
    · rw [numL_step (by omega)]
      have i := ih (n / 10) (by omega) (by omega)
      have ne := numL_ne (n / 10)
      cases e : numL (n / 10) with
      | nil => exact absurd e ne
      | cons a r => rw [e] at i; simpa using i
theorem numB_numL {n : Nat} (h : n < 10 ^ 60) : numB (numL n) = true := by
  have l1 := numL_len (k := 60) (by decide) h
  have l2 : 1 ≤ (numL n).length := by
    cases e : numL n with
    | nil => exact absurd e (numL_ne n)
    | cons => simp
  have d := numL_digits n
  unfold numB
  simp only [Bool.and_eq_true, Bool.or_eq_true, List.all_eq_true, decide_eq_true_eq]
  refine ⟨⟨⟨l2, l1⟩, d⟩, ?_⟩
  by_cases c : n < 10
  · exact .inl (by rw [numL_lt c]; rfl)
  · exact .inr (numL_head (by omega))
/-- a number, perhaps below 0 -/
def signB (l : List Nat) : Bool := if l.take 1 = [45] then numB (l.drop 1) && decide (l ≠ [45, 48]) else numB l
def sval (l : List Nat) : Int := if l.take 1 = [45] then -((NumText.digitsVal (l.drop 1) : Nat) : Int) else ((NumText.digitsVal l : Nat) : Int)
theorem sign_int {z : Str} (h : signB (tl z) = true) : PySem.intText? z = some (sval (tl z)) ∧ z.length ≤ 61 := by
  unfold signB at h
  unfold sval
  split at h
  · rename_i e
    rw [if_pos e]
    rw [Bool.and_eq_true] at h
    have l := numB_len h.1
    have ez : tl z = 45 :: (tl z).drop 1 := by
      rw [← List.take_append_drop 1 (tl z), e]
      simp
    have lz : z.length = ((tl z).drop 1).length + 1 := by rw [len_tl, ez]; simp
    refine ⟨intText_neg ez (numB_digits h.1) (fun e => by rw [e] at l; simp at l) (by omega), by omega⟩
  · rename_i e
    rw [if_neg e]
    obtain ⟨a, b⟩ := numB_int h
    exact ⟨a, by omega⟩
theorem numL_take {n : Nat} : (numL n).take 1 ≠ [45] := by
  cases e : numL n with
  | nil => simp
  | cons a r =>
    have d := numL_digits n a (by rw [e]; simp)
    simp
    omega
theorem sign_iL {i : Int} (h1 : -(10 ^ 60) < i) (h2 : i < 10 ^ 60) : signB (iL i) = true ∧ sval (iL i) = i := by
  unfold iL
  by_cases h : 0 ≤ i
  · rw [if_pos h]
    unfold signB sval
    rw [if_neg numL_take, if_neg numL_take]
    exact ⟨numB_numL (by omega), by rw [numL_val]; omega⟩
  · rw [if_neg h]
    unfold signB sval
    rw [if_pos (by simp), if_pos (by simp)]
    have e : List.drop 1 (45 :: numL (-i).toNat) = numL (-i).toNat := rfl
    rw [e, numB_numL (by omega), numL_val]
    refine ⟨?_, by omega⟩
    have : 45 :: numL (-i).toNat ≠ [45, 48] := fun z => by
      have z2 : numL (-i).toNat = numL 0 := by rw [List.cons.inj z |>.2]; rfl
      have := numL_inj z2
      omega
    rw [decide_eq_true this]
    rfl
theorem iL_free {i : Int} {c : Nat} (h : c ≠ 45) (h2 : c < 48 ∨ 57 < c) : c ∉ iL i := by
  unfold iL
  split
  · exact numL_free h2
  · intro z
    rcases List.mem_cons.mp z with z | z
    · exact h z
    · exact numL_free h2 z
theorem iL_len {i : Int} (h1 : -(10 ^ 60) < i) (h2 : i < 10 ^ 60) : (iL i).length ≤ 61 := by
  unfold iL
  split
  · have := numL_len (n := i.toNat) (k := 60) (by decide) (by omega)
    omega
  · have := numL_len (n := (-i).toNat) (k := 60) (by decide) (by omega)
    simp only [List.length_cons]
    omega
/-- a ref -/
def refB (l : List Nat) : Option (Nat × Nat) := match par [46] [] l with
  | some (a, b) => if numB a && numB b then some (NumText.digitsVal a, NumText.digitsVal b) else none
  | none => none
def refO (o : Option (Nat × Nat)) : Val := match o with
  | some (a, b) => (RefD.thing a b).v
  | none => .non
def refL : RefD → List Nat
  | .thing a b => iL a ++ (46 :: iL b)
  | .made a _ c => iL a ++ (46 :: iL c)
def RefD.Sm : RefD → Prop
  | .thing a b => 0 ≤ a ∧ a < 10 ^ 60 ∧ 0 ≤ b ∧ b < 10 ^ 60
  | .made _ _ _ => False
theorem refB_back {r : RefD} (h : r.Sm) : refO (refB (refL r)) = r.v := by
  cases r with
  | made => exact h.elim
  | thing a b =>
    obtain ⟨a0, a1, b0, b1⟩ := h
    have ea : iL a = numL a.toNat := if_pos a0
    have eb : iL b = numL b.toNat := if_pos b0
    have p := par_part1 (s := 46) (S := []) (p := iL a) (rest := iL b) (acc := []) (by rw [ea]; exact numL_free (by omega))
    have er : refL (.thing a b) = iL a ++ ([46] ++ iL b) := rfl
    unfold refB
    rw [er, p]
    dsimp only
    rw [List.nil_append, ea, eb, numB_numL (by omega), numB_numL (by omega), numL_val, numL_val]
    show Val.tup _ = Val.tup _
    have e1 : ((a.toNat : Nat) : Int) = a := by omega
    have e2 : ((b.toNat : Nat) : Int) = b := by omega
    rw [e1, e2]
theorem refL_free {r : RefD} {c : Nat} (h : c ≠ 45) (h2 : c ≠ 46) (h3 : c < 48 ∨ 57 < c) : c ∉ refL r := by
  cases r <;>
  · intro z
    rcases List.mem_append.mp z with z | z
    · exact iL_free h h3 z
    · rcases List.mem_cons.mp z with z | z
      · exact h2 z
      · exact iL_free h h3 z
/-- a shelf, a thing -/
def shelfB (l : List Nat) : List (Option (Nat × Nat)) := if l = [] then [] else (spl [44] 0 [] l).map refB
def shelfV (l : List Nat) : Val := if (shelfB l).all Option.isSome then .tup [.str "shelf", .tup ((shelfB l).map refO)] else .non
def thingV (l : List Nat) : Val :=
  if l = [109] then Thing.maker.v else if l = [120] then Thing.stone.v
  else if l.take 1 = [98] ∧ signB (l.drop 1) = true then (Thing.box (sval (l.drop 1))).v
  else if l.take 1 = [115] then shelfV (l.drop 1)
  else if l.take 1 = [114] ∧ (refB (l.drop 1)).isSome = true then .tup [.str "relay", refO (refB (l.drop 1))]
  else .non
def thL : Thing → List Nat
  | .box w => 98 :: iL w
  | .shelf rs => 115 :: joinL [44] (rs.map refL)
  | .relay r => 114 :: refL r
  | .maker => [109]
  | .stone => [120]
def Thing.Sm : Thing → Prop
  | .box w => -(10 ^ 60) < w ∧ w < 10 ^ 60
  | th => ∀ r ∈ th.refs, r.Sm
theorem refB_some {r : RefD} (h : r.Sm) : (refB (refL r)).isSome = true := by
  have e := refB_back h
  cases q : refB (refL r) with
  | some p => rfl
  | none =>
    rw [q] at e
    cases r with
    | made => exact h.elim
    | thing a b => cases e
theorem thingV_back {th : Thing} (h : th.Sm) : thingV (thL th) = th.v := by
  cases th with
  | maker => rfl
  | stone => rfl
  | box w =>
    obtain ⟨s1, s2⟩ := sign_iL h.1 h.2
    unfold thingV thL
    rw [if_neg (by simp), if_neg (by simp), if_pos ⟨by simp, by simpa using s1⟩]
    rw [show List.drop 1 (98 :: iL w) = iL w from rfl, s2]
  | relay r =>
    have hr : r.Sm := h r (by simp [Thing.refs])
    unfold thingV thL
    rw [if_neg (by simp), if_neg (by simp), if_neg (by simp), if_neg (by simp), if_pos ⟨by simp, by simpa using refB_some hr⟩]
    rw [show List.drop 1 (114 :: refL r) = refL r from rfl, refB_back hr]
    rfl
  | shelf rs =>
    have hr : ∀ r ∈ rs, r.Sm := fun r hr => h r (by simpa [Thing.refs] using hr)
    unfold thingV thL
    rw [if_neg (by simp), if_neg (by simp), if_neg (by simp), if_pos (by simp)]
    rw [show List.drop 1 (115 :: joinL [44] (rs.map refL)) = joinL [44] (rs.map refL) from rfl]
    have e : shelfB (joinL [44] (rs.map refL)) = rs.map fun r => refB (refL r) := by
      unfold shelfB
      cases rs with
      | nil => rfl
      | cons r rs =>
        have ne : joinL [44] ((r :: rs).map refL) ≠ [] := by
          have : refL r ≠ [] := by cases r <;> simp [refL]
          cases rs with
          | nil => simpa [joinL] using this
          | cons q qs => simp [joinL]
        rw [if_neg ne, spl_join (by simp) fun p hp => by
          obtain ⟨q, _, rfl⟩ := List.mem_map.mp hp
          exact refL_free (by decide) (by decide) (by decide), List.map_map]
        rfl
    unfold shelfV
    rw [e, if_pos (by
      rw [List.all_eq_true]
      intro o ho
      obtain ⟨r, hr2, rfl⟩ := List.mem_map.mp ho
      exact refB_some (hr r hr2)), List.map_map]
    have e2 : rs.map (refO ∘ fun r => refB (refL r)) = rs.map RefD.v := List.map_congr_left fun r hr2 => refB_back (hr r hr2)
    rw [e2]
    rfl
/-- houses -/
def hsL (hs : List Thing) : List Nat := if hs = [] then [45] else joinL [32] (hs.map thL)
theorem joinL_free {S : List Nat} {c : Nat} (hS : c ∉ S) : ∀ {ps : List (List Nat)}, (∀ p ∈ ps, c ∉ p) → c ∉ joinL S ps
  | [], _ => by simp [joinL]
  | [p], h => by simpa [joinL] using h p (by simp)
  | p :: q :: r, h => by
    simp only [joinL, List.mem_append, not_or]
    exact ⟨h p (by simp), hS, joinL_free hS fun z hz => h z (by simp at hz ⊢; exact .inr hz)⟩
theorem thL_free {th : Thing} {c : Nat} (h : c = 32 ∨ c = 59) : c ∉ thL th := by
  have hr : ∀ r : RefD, c ∉ refL r := fun r => refL_free (by omega) (by omega) (by omega)
  cases th with
  | box w =>
    intro z
    rcases List.mem_cons.mp z with z | z
    · omega
    · exact iL_free (by omega) (by omega) z
  | relay r =>
    intro z
    rcases List.mem_cons.mp z with z | z
    · omega
    · exact hr r z
  | maker => simp [thL]; omega
  | stone => simp [thL]; omega
  | shelf rs =>
    intro z
    rcases List.mem_cons.mp z with z | z
    · omega
    · exact joinL_free (by simp; omega) (fun p hp => by
        obtain ⟨r, _, rfl⟩ := List.mem_map.mp hp
        exact hr r) z
theorem thL_ne (th : Thing) : thL th ≠ [] := by cases th <;> simp [thL]
theorem hs_split {hs : List Thing} (h : hs ≠ []) : spl [32] 0 [] (hsL hs) = hs.map thL := by
  unfold hsL
  rw [if_neg h]
  exact spl_join (by simpa using h) fun p hp => by
    obtain ⟨q, _, rfl⟩ := List.mem_map.mp hp
    exact thL_free (.inl rfl)
theorem hsL_free {hs : List Thing} : 59 ∉ hsL hs := by
  unfold hsL
  split
  · simp
  · exact joinL_free (by simp) fun p hp => by
      obtain ⟨q, _, rfl⟩ := List.mem_map.mp hp
      exact thL_free (.inr rfl)
def wsL (ws : Rooms) : List Nat := joinL [32, 59, 32] (ws.map hsL)
theorem pre_mid {p q : List Nat} (h : 59 ∉ p) (hq : q = [] ∨ ∃ r, q = 32 :: r) : ∀ i, i < p.length → pre [32, 59, 32] ((p ++ q).drop i) = false := fun i hi => by
  refine Bool.eq_false_iff.mpr fun z => ?_
  have z2 : ((p ++ q).drop i).take 3 = [32, 59, 32] := by simpa [pre] using z
  have z3 : ((p ++ q).drop i)[1]? = some 59 := by
    have : (((p ++ q).drop i).take 3)[1]? = some 59 := by rw [z2]; rfl
    rwa [List.getElem?_take_of_lt (by decide)] at this
  rw [List.getElem?_drop] at z3
  by_cases c : i + 1 < p.length
  · rw [List.getElem?_append_left c] at z3
    exact h (List.mem_of_getElem? z3)
  · rw [List.getElem?_append_right (by omega)] at z3
    have e : i + 1 - p.length = 0 := by omega
    rw [e] at z3
    rcases hq with rfl | ⟨r, rfl⟩
    · simp at z3
    · simp at z3
theorem spl_semi : ∀ {ps : List (List Nat)}, ps ≠ [] → (∀ p ∈ ps, 59 ∉ p) → spl [32, 59, 32] 0 [] (joinL [32, 59, 32] ps) = ps
  | [], h, _ => absurd rfl h
  | [p], _, hp => by
    show spl [32, 59, 32] 0 [] p = [p]
    rw [spl_last fun i hi => ?_, List.nil_append]
    have := pre_mid (q := []) (hp p (by simp)) (.inl rfl) i hi
    rwa [List.append_nil] at this
  | p :: q :: r, _, hp => by
    show spl [32, 59, 32] 0 [] (p ++ ([32, 59, 32] ++ joinL [32, 59, 32] (q :: r))) = p :: q :: r
    rw [spl_part (by simp) (pre_mid (hp p (by simp)) (.inr ⟨_, rfl⟩)), List.nil_append, spl_semi (by simp) fun z hz => hp z (List.mem_cons_of_mem _ hz)]
theorem ws_split {ws : Rooms} (h : ws ≠ []) : spl [32, 59, 32] 0 [] (wsL ws) = ws.map hsL :=
  spl_semi (by simpa using h) fun p hp => by
    obtain ⟨q, _, rfl⟩ := List.mem_map.mp hp
    exact hsL_free
theorem hsL_dash {hs : List Thing} (h : hs ≠ []) : hsL hs ≠ [45] := by
  have e := hs_split h
  intro z
  rw [z] at e
  have e2 : spl [32] 0 [] [45] = [[45]] := by decide
  rw [e2] at e
  cases hs with
  | nil => exact h rfl
  | cons th r =>
    rw [List.map_cons] at e
    have := (List.cons.inj e).1
    cases th <;> simp [thL] at this
/-! LT1 -/
/-! the steps: one macro -/
local macro_rules | `(tactic| walk_at "hlk") => `(tactic| first | assumption | with_reducible exact hup_same | ((with_reducible refine' (hup_ne ?nn).trans ?tt); (case nn => first | assumption | (refine Ne.symm ?_; assumption)); (case tt => walk_at "hlk")))
local macro_rules | `(tactic| walk_at "zgo") => `(tactic| repeat (first
  | with_reducible refine i_seq ?_
  | with_reducible refine i_op ?_
  | ((with_reducible refine g_var ?_); first
    | with_reducible refine i_var0 ?_
    | with_reducible refine i_var1 ?_
    | with_reducible refine i_var2 ?_
    | with_reducible refine i_var3 ?_
    | with_reducible refine i_var4 ?_
    | with_reducible refine i_var5 ?_
    | with_reducible refine i_var6 ?_
    | with_reducible refine i_var7 ?_
    | with_reducible refine i_var8 ?_
    | with_reducible refine i_var9 ?_
    | with_reducible refine i_var10 ?_
    | with_reducible refine i_var11 ?_
    | with_reducible refine i_var12 ?_
    | with_reducible refine i_var13 ?_
    | with_reducible refine i_var14 ?_
    | with_reducible refine i_var15 ?_
    | with_reducible refine i_var16 ?_
    | with_reducible refine i_var17 ?_
    | with_reducible refine i_var18 ?_
    | with_reducible refine i_var19 ?_
    | with_reducible refine i_var20 ?_
    | with_reducible refine i_var21 ?_
    | with_reducible refine i_var22 ?_
    | with_reducible refine i_var23 ?_
    | with_reducible refine i_var24 ?_
    | with_reducible refine i_var25 ?_)
  | with_reducible refine i_c ?_
  | with_reducible refine i_cons ?_
  | with_reducible refine i_nil ?_
  | with_reducible refine i_asg ?_
  | ((with_reducible refine g_name ?_); first
    | with_reducible refine i_name0 ?_
    | with_reducible refine i_name1 ?_
    | with_reducible refine i_name2 ?_
    | with_reducible refine i_name3 ?_
    | with_reducible refine i_name4 ?_
    | with_reducible refine i_name5 ?_
    | with_reducible refine i_name6 ?_
    | with_reducible refine i_name7 ?_
    | with_reducible refine i_name8 ?_
    | with_reducible refine i_name9 ?_
    | with_reducible refine i_name10 ?_
    | with_reducible refine i_name11 ?_
    | with_reducible refine i_name12 ?_
    | with_reducible refine i_name13 ?_
    | with_reducible refine i_name14 ?_
    | with_reducible refine i_name15 ?_
    | with_reducible refine i_name16 ?_
    | with_reducible refine i_name17 ?_
    | with_reducible refine i_name18 ?_
    | with_reducible refine i_name19 ?_
    | with_reducible refine i_name20 ?_
    | with_reducible refine i_name21 ?_
    | with_reducible refine i_name22 ?_
    | with_reducible refine i_name23 ?_
    | with_reducible refine i_name24 ?_
    | with_reducible refine i_name25 ?_)
  | ((with_reducible refine g_tg1 ?_); first
    | with_reducible refine i_tg1_0 ?_
    | with_reducible refine i_tg1_1 ?_
    | with_reducible refine i_tg1_2 ?_
    | with_reducible refine i_tg1_3 ?_
    | with_reducible refine i_tg1_4 ?_
    | with_reducible refine i_tg1_5 ?_
    | with_reducible refine i_tg1_6 ?_
    | with_reducible refine i_tg1_7 ?_
    | with_reducible refine i_tg1_8 ?_
    | with_reducible refine i_tg1_9 ?_
    | with_reducible refine i_tg1_10 ?_
    | with_reducible refine i_tg1_11 ?_
    | with_reducible refine i_tg1_12 ?_
    | with_reducible refine i_tg1_13 ?_
    | with_reducible refine i_tg1_14 ?_
    | with_reducible refine i_tg1_15 ?_
    | with_reducible refine i_tg1_16 ?_
    | with_reducible refine i_tg1_17 ?_
    | with_reducible refine i_tg1_18 ?_
    | with_reducible refine i_tg1_19 ?_
    | with_reducible refine i_tg1_20 ?_
    | with_reducible refine i_tg1_21 ?_
    | with_reducible refine i_tg1_22 ?_
    | with_reducible refine i_tg1_23 ?_)
  | with_reducible refine i_yes ?_
  | with_reducible refine i_if ?_
  | with_reducible refine i_tv ?_
  | with_reducible refine i_bl ?_
  | with_reducible refine i_blV ?_
  | ((with_reducible refine g_if ?_); first
    | with_reducible refine iteT ?_
    | with_reducible refine iteF ?_
    | ((with_reducible refine' i_ifdt ?cc ?_); (case cc => first | decide | omega | assumption | decide +kernel))
    | ((with_reducible refine' i_ifdf ?cc ?_); (case cc => first | decide | omega | assumption | decide +kernel))
    | ((with_reducible refine' i_ifnt ?cc ?_); (case cc => first | decide | omega | assumption | decide +kernel))
    | ((with_reducible refine' i_ifnf ?cc ?_); (case cc => first | decide | omega | assumption | decide +kernel))
    | ((with_reducible refine' i_ift ?cc ?_); (case cc => first | assumption | rfl))
    | ((with_reducible refine' i_iff ?cc ?_); (case cc => first | assumption | rfl)))
  | with_reducible refine i_eqT ?_
  | with_reducible refine i_neT ?_
  | with_reducible refine i_eqI ?_
  | with_reducible refine i_neI ?_
  | with_reducible refine i_eqB ?_
  | with_reducible refine i_neB ?_
  | with_reducible refine i_lt ?_
  | with_reducible refine i_le ?_
  | with_reducible refine i_gt ?_
  | with_reducible refine i_ge ?_
  | with_reducible refine i_add ?_
  | with_reducible refine i_sub ?_
  | with_reducible refine i_and ?_
  | with_reducible refine i_or ?_
  | with_reducible refine i_not ?_
  | with_reducible refine i_andV ?_
  | with_reducible refine i_orV ?_
  | with_reducible refine i_notV ?_
  | with_reducible refine i_ifE ?_
  | with_reducible refine i_isN ?_
  | with_reducible refine i_notN ?_
  | with_reducible refine i_un ?_
  | with_reducible refine i_int1 ?_
  | with_reducible refine i_tup ?_
  | with_reducible refine i_lst ?_
  | ((with_reducible refine' i_small ?ss ?_); (case ss => first | decide | (simp only [List.length_cons, List.length_nil, List.length_map, List.length_append]; omega)))
  | with_reducible refine i_cb ?_
  | with_reducible refine i_call0 ?_
  | with_reducible refine i_call ?_
  | with_reducible refine i_meth0 ?_
  | with_reducible refine i_make0 ?_
  | with_reducible refine i_fld ?_
  | ((with_reducible refine' i_fldO ?ll ?_); (case ll => repeat (first | exact lk_hd | exact lk_nil | (refine lk_tl (by decide +kernel) ?_))))
  | ((with_reducible refine' i_fldR ?ee ?ll ?_); (case ee => walk_at "hlk"); (case ll => repeat (first | exact lk_hd | exact lk_nil | (refine lk_tl (by decide +kernel) ?_))))
  | ((with_reducible refine' i_mO ?ll ?_); (case ll => repeat (first | exact lk_hd | exact lk_nil | (refine lk_tl (by decide +kernel) ?_))))
  | ((with_reducible refine' i_mR ?ee ?ll ?_); (case ee => walk_at "hlk"); (case ll => repeat (first | exact lk_hd | exact lk_nil | (refine lk_tl (by decide +kernel) ?_))))
  | ((with_reducible refine' i_ixT ?at_ ?_); (case at_ => first | exact rfl | exact L2.atI_nat (j := 0) rfl | exact L2.atI_nat (j := 1) rfl))
  | ((with_reducible refine' i_ixL ?at_ ?_); (case at_ => first | exact rfl | exact L2.atI_nat (j := 0) rfl | exact L2.atI_nat (j := 1) rfl))
  | ((with_reducible refine' i_ixR ?hh ?at_ ?_); (case hh => walk_at "hlk"); (case at_ => first | exact rfl | exact L2.atI_nat (j := 0) rfl | exact L2.atI_nat (j := 1) rfl))
  | with_reducible refine i_fldS ?_
  | with_reducible refine i_bm ?_
  | ((with_reducible refine' i_tyL ?hh ?_); (case hh => walk_at "hlk"))
  | ((with_reducible refine' i_l2 ?xx ?yy ?_); (case xx => exact rfl); (case yy => exact rfl))
  | with_reducible refine i_callK ?_
  | with_reducible refine i_makeK ?_
  | with_reducible refine i_chain ?_
  | with_reducible refine i_raise ?_
  | with_reducible refine i_atx ?_
  | with_reducible refine i_lenO ?_
  | with_reducible refine i_sub_ ?_
  | with_reducible refine i_expr ?_
  | with_reducible refine i_ret ?_
  | with_reducible refine i_next ?_
  | with_reducible refine i_lc ?_
  | with_reducible refine i_r1 ?_
  | with_reducible refine i_iL ?_
  | with_reducible refine i_iT ?_
  | with_reducible refine i_itsF ?_
  | with_reducible refine i_itsS ?_
  | with_reducible refine i_itsT ?_
  | ((with_reducible refine' i_itsR ?hh ?_); (case hh => walk_at "hlk"))
  | with_reducible refine i_lenF ?_
  | with_reducible refine i_lenT ?_
  | ((with_reducible refine' i_lenR ?hh ?_); (case hh => walk_at "hlk"))
  | with_reducible refine i_listF ?_
  | with_reducible refine i_listT ?_
  | ((with_reducible refine' i_listR ?hh ?_); (case hh => walk_at "hlk"))
  | with_reducible refine i_tupF ?_
  | ((with_reducible refine' i_lenOR ?hh ?_); (case hh => walk_at "hlk"))
  | ((with_reducible refine' i_tupR ?hh ?_); (case hh => walk_at "hlk"))
  | ((with_reducible refine g_isi ?_); first
    | with_reducible refine i_isi_non_bool ?_
    | with_reducible refine i_isi_non_int ?_
    | with_reducible refine i_isi_non_str ?_
    | with_reducible refine i_isi_non_list ?_
    | with_reducible refine i_isi_non_tuple ?_
    | with_reducible refine i_isi_bl_bool ?_
    | with_reducible refine i_isi_bl_int ?_
    | with_reducible refine i_isi_bl_str ?_
    | with_reducible refine i_isi_bl_list ?_
    | with_reducible refine i_isi_bl_tuple ?_
    | with_reducible refine i_isi_int_bool ?_
    | with_reducible refine i_isi_int_int ?_
    | with_reducible refine i_isi_int_str ?_
    | with_reducible refine i_isi_int_list ?_
    | with_reducible refine i_isi_int_tuple ?_
    | with_reducible refine i_isi_str_bool ?_
    | with_reducible refine i_isi_str_int ?_
    | with_reducible refine i_isi_str_str ?_
    | with_reducible refine i_isi_str_list ?_
    | with_reducible refine i_isi_str_tuple ?_
    | with_reducible refine i_isi_tup_bool ?_
    | with_reducible refine i_isi_tup_int ?_
    | with_reducible refine i_isi_tup_str ?_
    | with_reducible refine i_isi_tup_list ?_
    | with_reducible refine i_isi_tup_tuple ?_
    | with_reducible refine i_isi_lst_bool ?_
    | with_reducible refine i_isi_lst_int ?_
    | with_reducible refine i_isi_lst_str ?_
    | with_reducible refine i_isi_lst_list ?_
    | with_reducible refine i_isi_lst_tuple ?_)
  | with_reducible refine i_max ?_
  | with_reducible refine i_min ?_
  | with_reducible refine i_rgin ?_
  | with_reducible refine i_tabin ?_
  | with_reducible refine i_disp ?_
  | with_reducible refine i_pcons ?_
  | with_reducible refine i_pnil ?_
  | with_reducible refine i_dget ?_
  | with_reducible refine i_din ?_
  | with_reducible refine i_dput ?_
  | ((with_reducible refine' i_wgtup ?nn ?_); (case nn => exact rfl))
  | ((with_reducible refine' i_rngB ?aa ?bb ?_); (case aa => first | decide | omega); (case bb => first | decide | omega))
  | with_reducible refine i_for ?_
  | with_reducible refine i_while ?_
  | with_reducible refine i_wgcons ?_
  | with_reducible refine i_wgnil ?_
  | with_reducible refine i_wslL ?_
  | with_reducible refine i_nopart ?_
  | with_reducible refine i_part ?_
  | ((with_reducible refine' i_wgunl ?nn ?_); (case nn => exact rfl))
  | ((with_reducible refine' i_xf ?ee ?_); (case ee => exact rfl))
  | ((with_reducible refine' i_errIs ?ee ?_); (case ee => exact rfl))
  | with_reducible refine i_bm0 ?_
  | with_reducible refine i_intB ?_
  | with_reducible refine i_intI ?_
  | with_reducible refine i_tryThru ?_
  | with_reducible refine i_iS ?_
  | with_reducible refine i_str1 ?_
  | with_reducible refine i_tyS ?_
  | with_reducible refine i_fmtI ?_
  | with_reducible refine i_js ?_
  | with_reducible refine i_jsc ?_
  | with_reducible refine i_jsn ?_
  ))

theorem str_iff {x : Str} {s : String} {l : List Nat} (e : tl (Str.ofString s) = l) : x = Str.ofString s ↔ tl x = l := ⟨fun h => by rw [h, e], fun h => ext_tl (h.trans e.symm)⟩
theorem tl_cut_from (z : Str) : tl (cutS z (some 1) none) = (tl z).drop 1 := by
  unfold cutS
  have e1 : HT.sIx z.length 0 (some 1) = min 1 z.length := HT.sIx_nat _ _ 1
  have e2 : HT.sIx z.length z.length none = z.length := rfl
  rw [e1, e2]
  show ((tl z).drop (min 1 z.length)).take (z.length - min 1 z.length) = _
  have hl := len_tl z
  rw [List.take_of_length_le (by simp [List.length_drop, ← hl]), ]
  by_cases c : 1 ≤ z.length
  · rw [Nat.min_eq_left c]
  · have : tl z = [] := List.length_eq_zero_iff.mp (by omega)
    rw [this]; simp
theorem tl_cut_to (z : Str) : tl (cutS z none (some 1)) = (tl z).take 1 := by
  unfold cutS
  have e1 : HT.sIx z.length z.length (some 1) = min 1 z.length := HT.sIx_nat _ _ 1
  have e2 : HT.sIx z.length 0 none = 0 := rfl
  rw [e1, e2]
  show ((tl z).drop 0).take (min 1 z.length - 0) = _
  have hl := len_tl z
  rw [List.drop_zero, Nat.sub_zero]
  by_cases c : 1 ≤ z.length
  · rw [Nat.min_eq_left c]
  · have : tl z = [] := List.length_eq_zero_iff.mp (by omega)
    rw [this]; simp
theorem cut_len (z : Str) (lo hi : Option Int) {n : Nat} (h : z.length ≤ n) : (cutS z lo hi).length ≤ n := Nat.le_trans (cutS_length z lo hi) h
def fs_is_number : FS where
  P := Str
  pre := fun z vs h => vs = [.str z] ∧ z.length ≤ 1000000
  post := fun z h v h' => v = .bl (numB (tl z)) ∧ h' = h
theorem c_is_number {z : Str} {h : Hh} {E : XQ} {Q : KQ} (hz : z.length ≤ 1000000) (k : Q (.bl (numB (tl z))) h) : fs_is_number.sp [.str z] h E Q := ⟨z, ⟨rfl, hz⟩, fun v h' ⟨a, b⟩ => by subst a b; exact k, fun _ _ _ z => z.elim⟩
def fs_is_signed : FS where
  P := Str
  pre := fun z vs h => vs = [.str z] ∧ z.length ≤ 1000000
  post := fun z h v h' => v = .bl (signB (tl z)) ∧ h' = h
theorem c_is_signed {z : Str} {h : Hh} {E : XQ} {Q : KQ} (hz : z.length ≤ 1000000) (k : Q (.bl (signB (tl z))) h) : fs_is_signed.sp [.str z] h E Q := ⟨z, ⟨rfl, hz⟩, fun v h' ⟨a, b⟩ => by subst a b; exact k, fun _ _ _ z => z.elim⟩
def fs_ref_in : FS where
  P := Str
  pre := fun z vs h => vs = [.str z] ∧ z.length ≤ 1000000
  post := fun z h v h' => v = refO (refB (tl z)) ∧ h' = h
theorem c_ref_in {z : Str} {h : Hh} {E : XQ} {Q : KQ} (hz : z.length ≤ 1000000) (k : Q (refO (refB (tl z))) h) : fs_ref_in.sp [.str z] h E Q := ⟨z, ⟨rfl, hz⟩, fun v h' ⟨a, b⟩ => by subst a b; exact k, fun _ _ _ z => z.elim⟩
def r_is_number : WS :=
  wSeq (wIf (wOr (wTv (wOp wEqS (wVar 0) (wC (.str "")))) (wTv (wOp wGt (wCB cLen (wCons (wVar 0) (wNil))) (wC (.int 60))))) (wRet (wC (.bl false))) (wNext))
  (wSeq (wFor (wiS (wVar 0)) (wgName 1)
  (wIf (wTv (wOp wNotInSign (wVar 1) (wC (.str "0123456789")))) (wRet (wC (.bl false))) (wNext)))
  (wRet (wOrV (wOp wEqS (wCB cLen (wCons (wVar 0) (wNil))) (wC (.int 1))) (wOp wNeS (wOp wIx (wVar 0) (wC (.int 0))) (wC (.str "0"))))))

def r_is_signed : WS :=
  wSeq (wIf (wTv (wOp wEqS (wSl wSlS (wVar 0) (wNoPart) (wPart (wC (.int 1)))) (wC (.str "-")))) (wRet (wAndV (wCall fs_is_number [] (wCons (wSl wSlS (wVar 0) (wPart (wC (.int 1))) (wNoPart)) (wNil))) (wOp wNeS (wVar 0) (wC (.str "-0"))))) (wNext))
  (wRet (wCall fs_is_number [] (wCons (wVar 0) (wNil))))

def r_ref_in : WS :=
  wSeq (wAsg (wBM "str" mPartition (wVar 0) (wCons (wC (.str ".")) (wNil))) (wgTup 3 (wgCons (wgName 1) (wgCons (wgName 2) (wgCons (wgName 3) (wgNil))))))
  (wSeq (wIf (wOr (wTv (wOp wEqS (wVar 2) (wC (.str "")))) (wOr (wNot (wTv (wCall fs_is_number [] (wCons (wVar 1) (wNil))))) (wNot (wTv (wCall fs_is_number [] (wCons (wVar 3) (wNil))))))) (wRet (wC .non)) (wNext))
  (wRet (wTup (wCons (wC (.str "thing")) (wCons (wCB cIntS (wCons (wVar 1) (wNil))) (wCons (wCB cIntS (wCons (wVar 3) (wNil))) (wNil)))))))

theorem dig_mem (c : Nat) : decide (c ∈ (Str.ofString "0123456789").cps.toList) = decide (48 ≤ c ∧ c ≤ 57) := by
  have e : (Str.ofString "0123456789").cps.toList = [48, 49, 50, 51, 52, 53, 54, 55, 56, 57] := by decide +kernel
  rw [e]
  refine decide_eq_decide.mpr ?_
  simp only [List.mem_cons, List.not_mem_nil, or_false]
  omega
theorem ix_head {z : Str} {c : Nat} {r : List Nat} {h : Hh} {Q : KQ} (e : tl z = c :: r) (hz : z.length ≤ 16000000) (k : Q (.str ⟨#[c]⟩) h) : wIx (.str z) (.int 0) h Q :=
  ⟨0, _, rfl, .str (by have := sizeLine_eq; omega) (L2.atI_nat (j := 0) (by show (tl z)[0]? = some c; rw [e]; rfl)), k⟩
theorem rd_is_number {K : Fr} {p : Str} {vs h Q} {X : XQ} (gd : Good K Q) (q : fs_is_number.pre p vs h) (hp : ∀ v h', fs_is_number.post p h v h' → Q v h') :
    r_is_number (fun _ h' => Q .non h') Q (fun _ _ => False) (fun _ _ => False) (fun C v _ h' => X C v h') (startV ["word", "sign"] vs) h := by
  obtain ⟨rfl, hz⟩ := q
  have hq : ∀ b, numB (tl p) = b → Q (.bl b) h := fun b e => hp _ _ ⟨by rw [e], rfl⟩
  clear hp
  show r_is_number _ _ _ _ _ [some (.str p), none] h
  unfold r_is_number
  have hl := len_tl p
  by_cases c0 : p = Str.ofString ""
  · walk_at "zgo"
    refine hq _ ?_
    rw [c0]
    decide +kernel
  have c1 : tl p ≠ [] := fun e => c0 ((str_iff (by decide +kernel)).mpr e)
  have c2 : 1 ≤ (tl p).length := by
    cases e : tl p with
    | nil => exact absurd e c1
    | cons => simp
  walk_at "zgo"
  refine i_lenS (by omega) ?_
  by_cases c60 : 60 < (p.length : Int)
  · walk_at "zgo"
    refine hq _ ?_
    unfold numB
    rw [decide_eq_false (show ¬ (tl p).length ≤ 60 by omega)]
    simp
  walk_at "zgo"
  refine for_inv (fun i ρ h' => h' = h ∧ (∃ x : Option Val, ρ = [some (.str p), x]) ∧ ∀ j c, j < i → (tl p)[j]? = some c → 48 ≤ c ∧ c ≤ 57) ⟨rfl, ⟨_, rfl⟩, fun j c hj => by omega⟩ ?_
  rintro i ρ h' ⟨rfl, ⟨x, rfl⟩, hd⟩
  refine ⟨trivial, fun hi => ?_, fun z hz2 => ?_⟩
  rotate_left
  · obtain ⟨c, hc, rfl⟩ := map_get hz2
    walk_at "zgo"
    refine ⟨c, _, rfl, rfl, ?_⟩
    rw [dig_mem]
    by_cases cd : 48 ≤ c ∧ c ≤ 57
    · walk_at "zgo"
      refine ⟨rfl, ⟨_, rfl⟩, fun j d hj ej => ?_⟩
      by_cases e : j = i
      · subst e
        rw [show (tl p)[j]? = some c from hc] at ej
        cases ej
        exact cd
      · exact hd j d (by omega) ej
    · walk_at "zgo"
      refine hq _ ?_
      unfold numB
      have : (tl p).all (fun c => decide (48 ≤ c ∧ c ≤ 57)) = false := by
        rw [List.all_eq_false]
        exact ⟨c, List.mem_of_getElem? hc, by rw [decide_eq_false cd]; decide⟩
      rw [this]
      simp
  rw [List.length_map] at hi
  have hall : (tl p).all (fun c => decide (48 ≤ c ∧ c ≤ 57)) = true := by
    rw [List.all_eq_true]
    intro c hc
    obtain ⟨j, hj, rfl⟩ := List.getElem_of_mem hc
    exact decide_eq_true (hd j _ (Nat.lt_of_lt_of_le hj hi) (List.getElem?_eq_getElem hj))
  have nb : numB (tl p) = (decide ((tl p).length = 1) || decide ((tl p).head? ≠ some 48)) := by
    unfold numB
    rw [hall, decide_eq_true c2, decide_eq_true (show (tl p).length ≤ 60 by omega)]
    rfl
  walk_at "zgo"
  refine i_lenS (by omega) ?_
  by_cases l1 : (p.length : Int) = 1
  · walk_at "zgo"
    refine hq _ ?_
    rw [nb, decide_eq_true (show (tl p).length = 1 by omega)]
    rfl
  walk_at "zgo"
  cases e : tl p with
  | nil => exact absurd e c1
  | cons c r =>
    refine ix_head e (by omega) ?_
    walk_at "zgo"
    refine hq _ ?_
    rw [nb, decide_eq_false (show ¬ (tl p).length = 1 by omega), e]
    have : decide ((⟨#[c]⟩ : Str) = Str.ofString "0") = decide (c = 48) := decide_eq_decide.mpr ((str_iff (l := [48]) (by decide +kernel)).trans (by simp [tl]))
    rw [this]
    simp
theorem rd_is_signed {K : Fr} {p : Str} {vs h Q} {X : XQ} (gd : Good K Q) (q : fs_is_signed.pre p vs h) (hp : ∀ v h', fs_is_signed.post p h v h' → Q v h') :
    r_is_signed (fun _ h' => Q .non h') Q (fun _ _ => False) (fun _ _ => False) (fun C v _ h' => X C v h') (startV ["word"] vs) h := by
  obtain ⟨rfl, hz⟩ := q
  have hq : ∀ b, signB (tl p) = b → Q (.bl b) h := fun b e => hp _ _ ⟨by rw [e], rfl⟩
  clear hp
  show r_is_signed _ _ _ _ _ [some (.str p)] h
  unfold r_is_signed
  walk_at "zgo"
  refine i_slS (by omega) ?_
  by_cases c : cutS p none (some 1) = Str.ofString "-"
  · have c2 : (tl p).take 1 = [45] := by rw [← tl_cut_to]; exact (str_iff (by decide +kernel)).mp c
    walk_at "zgo"
    refine i_slS (by omega) ?_
    walk_at "zgo"
    refine c_is_number (cut_len _ _ _ hz) ?_
    rw [tl_cut_from]
    have e0 : decide (p = Str.ofString "-0") = decide (tl p = [45, 48]) := decide_eq_decide.mpr (str_iff (by decide +kernel))
    have sb : signB (tl p) = (numB ((tl p).drop 1) && decide (tl p ≠ [45, 48])) := if_pos c2
    cases nb : numB ((tl p).drop 1) with
    | true =>
      walk_at "zgo"
      refine hq _ ?_
      rw [sb, nb, e0]
      simp
    | false =>
      walk_at "zgo"
      refine hq _ ?_
      rw [sb, nb]
      rfl
  · have c2 : (tl p).take 1 ≠ [45] := fun z => c ((str_iff (l := [45]) (by decide +kernel)).mpr ((tl_cut_to p).trans z))
    walk_at "zgo"
    refine c_is_number hz ?_
    exact hq _ (if_neg c2)
theorem par_len {S : List Nat} : ∀ {l acc a b : List Nat}, par S acc l = some (a, b) → a.length ≤ acc.length + l.length ∧ b.length ≤ l.length
  | [], acc, a, b, h => by simp [par] at h
  | c :: r, acc, a, b, h => by
    unfold par at h
    split at h
    · have e := Option.some.inj h
      obtain ⟨rfl, rfl⟩ := Prod.mk.inj e
      exact ⟨by omega, by simp⟩
    · have := par_len h
      simp at this ⊢
      omega
theorem rd_ref_in {K : Fr} {p : Str} {vs h Q} {X : XQ} (gd : Good K Q) (q : fs_ref_in.pre p vs h) (hp : ∀ v h', fs_ref_in.post p h v h' → Q v h') :
    r_ref_in (fun _ h' => Q .non h') Q (fun _ _ => False) (fun _ _ => False) (fun C v _ h' => X C v h') (startV ["word", "house", "point", "number"] vs) h := by
  obtain ⟨rfl, hz⟩ := q
  have hq : ∀ b, refO (refB (tl p)) = b → Q b h := fun b e => hp _ _ ⟨by rw [e], rfl⟩
  clear hp
  show r_ref_in _ _ _ _ _ [some (.str p), none, none, none] h
  unfold r_ref_in
  walk_at "zgo"
  refine i_partition (by decide +kernel) (by omega) ?_
  have ep := partition_par p (Str.ofString ".") (by decide +kernel)
  have e46 : tl (Str.ofString ".") = [46] := by decide +kernel
  rw [e46] at ep
  cases pr : par [46] [] (tl p) with
  | none =>
    rw [pr] at ep
    rw [ep]
    have rb : refB (tl p) = none := by unfold refB; rw [pr]
    walk_at "zgo"
    exact hq _ (by rw [rb]; rfl)
  | some ab =>
    obtain ⟨a, b⟩ := ab
    rw [pr] at ep
    rw [ep]
    have rb : refB (tl p) = if numB a && numB b then some (NumText.digitsVal a, NumText.digitsVal b) else none := by unfold refB; rw [pr]
    have pt : ¬ (Str.ofString "." = Str.ofString "") := by decide +kernel
    have hab : a.length ≤ 1000000 ∧ b.length ≤ 1000000 := by
      obtain ⟨q1, q2⟩ := par_len pr
      have hl : p.length = (tl p).length := len_tl p
      have q3 : ([] : List Nat).length = 0 := rfl
      rw [q3] at q1
      constructor <;> omega
    walk_at "zgo"
    refine c_is_number (z := ⟨a.toArray⟩) (by show a.toArray.size ≤ _; simpa using hab.1) ?_
    rw [show tl ⟨a.toArray⟩ = a from rfl]
    cases na : numB a with
    | false =>
      walk_at "zgo"
      exact hq _ (by rw [rb, na]; rfl)
    | true =>
      walk_at "zgo"
      refine c_is_number (z := ⟨b.toArray⟩) (by show b.toArray.size ≤ _; simpa using hab.2) ?_
      rw [show tl ⟨b.toArray⟩ = b from rfl]
      cases nb : numB b with
      | false =>
        walk_at "zgo"
        exact hq _ (by rw [rb, na, nb]; rfl)
      | true =>
        walk_at "zgo"
        obtain ⟨i1, l1⟩ := numB_int (z := ⟨a.toArray⟩) na
        obtain ⟨i2, l2⟩ := numB_int (z := ⟨b.toArray⟩) nb
        refine i_intS i1 (Nat.le_trans l1 (by decide)) ?_
        walk_at "zgo"
        refine i_intS i2 (Nat.le_trans l2 (by decide)) ?_
        walk_at "zgo"
        exact hq _ (by rw [rb, na, nb]; rfl)
/-! LT2 -/


/-! ### the writing -/
def refT : RefD → Str
  | .thing a b => iT a ++ Str.ofString "." ++ iT b
  | .made a _ c => iT a ++ Str.ofString "." ++ iT c
theorem tl_dot : tl (Str.ofString ".") = [46] := by decide +kernel
theorem tl_refT (r : RefD) : tl (refT r) = refL r := by
  cases r <;>
  · unfold refT refL
    rw [tl_append, tl_append, tl_iT, tl_iT, tl_dot]
    simp
def thT : Thing → Str
  | .box w => Str.ofString "b" ++ iT w
  | .shelf rs => Str.ofString "s" ++ Txt.join (Str.ofString ",") (rs.map refT)
  | .relay r => Str.ofString "r" ++ refT r
  | .maker => Str.ofString "m"
  | .stone => Str.ofString "x"
theorem map_refT (rs : List RefD) : (rs.map refT).map tl = rs.map refL := by
  rw [List.map_map]
  exact List.map_congr_left fun r _ => tl_refT r
theorem tl_thT (th : Thing) : tl (thT th) = thL th := by
  cases th with
  | box w => unfold thT thL; rw [tl_append, tl_iT, show tl (Str.ofString "b") = [98] by decide +kernel]; rfl
  | shelf rs => unfold thT thL; rw [tl_append, join_eq, tl_join, map_refT, show tl (Str.ofString "s") = [115] by decide +kernel, show tl (Str.ofString ",") = [44] by decide +kernel]; rfl
  | relay r => unfold thT thL; rw [tl_append, tl_refT, show tl (Str.ofString "r") = [114] by decide +kernel]; rfl
  | maker => unfold thT thL; decide +kernel
  | stone => unfold thT thL; decide +kernel
def hsT (hs : List Thing) : Str := if hs = [] then Str.ofString "-" else Txt.join (Str.ofString " ") (hs.map thT)
theorem tl_hsT (hs : List Thing) : tl (hsT hs) = hsL hs := by
  unfold hsT hsL
  split
  · decide +kernel
  · rw [join_eq, tl_join, List.map_map, show tl (Str.ofString " ") = [32] by decide +kernel]
    rw [show hs.map (tl ∘ thT) = hs.map thL from List.map_congr_left fun r _ => tl_thT r]
def wsT (ws : Rooms) : Str := Txt.join (Str.ofString " ; ") (ws.map hsT)
theorem tl_wsT (ws : Rooms) : tl (wsT ws) = wsL ws := by
  unfold wsT wsL
  rw [join_eq, tl_join, List.map_map, show tl (Str.ofString " ; ") = [32, 59, 32] by decide +kernel]
  rw [show ws.map (tl ∘ hsT) = ws.map hsL from List.map_congr_left fun r _ => tl_hsT r]
theorem joinL_len {S : List Nat} {m : Nat} : ∀ {ps : List (List Nat)}, (∀ p ∈ ps, p.length ≤ m) → (joinL S ps).length ≤ ps.length * (m + S.length)
  | [], _ => by simp [joinL]
  | [p], h => by have := h p (by simp); simp [joinL]; omega
  | p :: q :: r, h => by
    have h1 := h p (by simp)
    have h2 := joinL_len (S := S) (ps := q :: r) fun z hz => h z (List.mem_cons_of_mem _ hz)
    simp only [joinL, List.length_append]
    rw [show (p :: q :: r).length = (q :: r).length + 1 from rfl, Nat.add_mul]
    omega
theorem RefD.Sm.len {r : RefD} (h : r.Sm) : (refL r).length ≤ 123 := by
  cases r with
  | made => exact h.elim
  | thing a b =>
    obtain ⟨a0, a1, b0, b1⟩ := h
    have := iL_len (i := a) (by omega) a1
    have := iL_len (i := b) (by omega) b1
    simp [refL]
    omega
/-- small enough to be written -/
structure SmT (ws : Rooms) : Prop where
  len : ws.length ≤ 20
  house : ∀ hs ∈ ws, hs.length ≤ 20
  refs : ∀ hs ∈ ws, ∀ th ∈ hs, th.refs.length ≤ 20 ∧ th.Sm
theorem thL_len {th : Thing} (h : th.Sm) (h2 : th.refs.length ≤ 20) : (thL th).length ≤ 2501 := by
  cases th with
  | box w => have := iL_len h.1 h.2; simp [thL]; omega
  | relay r => have := (h r (by simp [Thing.refs])).len; simp [thL]; omega
  | maker => simp [thL]
  | stone => simp [thL]
  | shelf rs =>
    have := joinL_len (S := [44]) (m := 123) (ps := rs.map refL) fun p hp => by
      obtain ⟨r, hr, rfl⟩ := List.mem_map.mp hp
      exact (h r (by simpa [Thing.refs] using hr)).len
    simp [Thing.refs] at h2
    simp [thL] at this ⊢
    omega
theorem hsL_len {hs : List Thing} (hl : hs.length ≤ 20) (h : ∀ th ∈ hs, th.refs.length ≤ 20 ∧ th.Sm) : (hsL hs).length ≤ 50041 := by
  unfold hsL
  split
  · simp
  · have := joinL_len (S := [32]) (m := 2501) (ps := hs.map thL) fun p hp => by
      obtain ⟨t, ht, rfl⟩ := List.mem_map.mp hp
      exact thL_len (h t ht).2 (h t ht).1
    simp at this
    omega
theorem wsL_len {ws : Rooms} (s : SmT ws) : (wsL ws).length ≤ 1000000 + 881 := by
  have := joinL_len (S := [32, 59, 32]) (m := 50041) (ps := ws.map hsL) fun p hp => by
    obtain ⟨t, ht, rfl⟩ := List.mem_map.mp hp
    exact hsL_len (s.house t ht) (s.refs t ht)
  have := s.len
  unfold wsL
  simp at *
  omega
theorem log_ok {i : Int} (h1 : -(10 ^ 60) < i) (h2 : i < 10 ^ 60) : i.natAbs.log2 < 1920 := by
  have h : i.natAbs < 2 ^ 1920 := by
    have : (10 : Nat) ^ 60 < 2 ^ 1920 := by decide +kernel
    have : i.natAbs < 10 ^ 60 := by omega
    omega
  by_cases c : i.natAbs = 0
  · rw [c]; decide
  · exact (Nat.log2_lt c).mpr h
theorem empty_app (x : Str) : Str.empty ++ x = x := Str.empty_append x
def fs_ref_text : FS where
  P := RefD
  pre := fun r vs h => vs = [r.v] ∧ r.Sm
  post := fun r h v h' => v = .str (refT r) ∧ h' = h
theorem c_ref_text {r : RefD} {h : Hh} {E : XQ} {Q : KQ} (s : r.Sm) (k : Q (.str (refT r)) h) : fs_ref_text.sp [r.v] h E Q := ⟨r, ⟨rfl, s⟩, fun v h' ⟨a, b⟩ => by subst a b; exact k, fun _ _ _ z => z.elim⟩
def fs_thing_text : FS where
  P := Thing
  pre := fun th vs h => vs = [th.v] ∧ th.Sm ∧ th.refs.length ≤ 20
  post := fun th h v h' => v = .str (thT th) ∧ h' = h
theorem c_thing_text {r : Thing} {h : Hh} {E : XQ} {Q : KQ} (s : r.Sm) (s2 : r.refs.length ≤ 20) (k : Q (.str (thT r)) h) : fs_thing_text.sp [r.v] h E Q := ⟨r, ⟨rfl, s, s2⟩, fun v h' ⟨a, b⟩ => by subst a b; exact k, fun _ _ _ z => z.elim⟩
def fs_house_text : FS where
  P := List Thing
  pre := fun hs vs h => vs = [houseV hs] ∧ hs.length ≤ 20 ∧ ∀ th ∈ hs, th.refs.length ≤ 20 ∧ th.Sm
  post := fun hs h v h' => v = .str (hsT hs) ∧ h' = h
theorem c_house_text {r : List Thing} {h : Hh} {E : XQ} {Q : KQ} (s : r.length ≤ 20) (s2 : ∀ th ∈ r, th.refs.length ≤ 20 ∧ th.Sm) (k : Q (.str (hsT r)) h) : fs_house_text.sp [houseV r] h E Q := ⟨r, ⟨rfl, s, s2⟩, fun v h' ⟨a, b⟩ => by subst a b; exact k, fun _ _ _ z => z.elim⟩
def r_ref_text : WS :=
  wRet (wJs [wFmt (wOp wIx (wVar 0) (wC (.int 1))), wC (.str "."), wFmt (wOp wIx (wVar 0) (wC (.int 2)))])

def r_thing_text : WS :=
  wSeq (wIf (wTv (wOp wEqS (wOp wIx (wVar 0) (wC (.int 0))) (wC (.str "box")))) (wRet (wJs [wC (.str "b"), wFmt (wOp wIx (wVar 0) (wC (.int 1)))])) (wNext))
  (wSeq (wIf (wTv (wOp wEqS (wOp wIx (wVar 0) (wC (.int 0))) (wC (.str "shelf")))) (wRet (wOp wAddS (wC (.str "s")) (wBM "str" mJoin (wC (.str ",")) (wCons (wLc (wiT (wOp wIx (wVar 0) (wC (.int 1)))) (tg1 1) wYes (wCall fs_ref_text [] (wCons (wVar 1) (wNil))) [1]) (wNil))))) (wNext))
  (wSeq (wIf (wTv (wOp wEqS (wOp wIx (wVar 0) (wC (.int 0))) (wC (.str "relay")))) (wRet (wOp wAddS (wC (.str "r")) (wCall fs_ref_text [] (wCons (wOp wIx (wVar 0) (wC (.int 1))) (wNil))))) (wNext))
  (wSeq (wIf (wTv (wOp wEqS (wOp wIx (wVar 0) (wC (.int 0))) (wC (.str "maker")))) (wRet (wC (.str "m"))) (wNext))
  (wRet (wC (.str "x"))))))

def r_house_text : WS :=
  wSeq (wIf (wTv (wOp wEqS (wCB cLen (wCons (wVar 0) (wNil))) (wC (.int 0)))) (wRet (wC (.str "-"))) (wNext))
  (wRet (wBM "str" mJoin (wC (.str " ")) (wCons (wLc (wiL (wVar 0)) (tg1 1) wYes (wCall fs_thing_text [] (wCons (wVar 1) (wNil))) [1]) (wNil))))

theorem i_jz {acc y : Str} {A : Prop} (hz : acc.length + y.length ≤ 16000000) (q : A) : (acc ++ y).length ≤ sizeLine ∧ A := ⟨by rw [Str.length_append]; have := sizeLine_eq; omega, q⟩
theorem iT_len {i : Int} (h1 : -(10 ^ 60) < i) (h2 : i < 10 ^ 60) : (iT i).length ≤ 61 := by rw [len_tl, tl_iT]; exact iL_len h1 h2
theorem rd_ref_text {K : Fr} {p : RefD} {vs h Q} {X : XQ} (gd : Good K Q) (q : fs_ref_text.pre p vs h) (hp : ∀ v h', fs_ref_text.post p h v h' → Q v h') :
    r_ref_text (fun _ h' => Q .non h') Q (fun _ _ => False) (fun _ _ => False) (fun C v _ h' => X C v h') (startV ["ref"] vs) h := by
  obtain ⟨rfl, s⟩ := q
  have hq : Q (.str (refT p)) h := hp _ _ ⟨rfl, rfl⟩
  clear hp
  cases p with
  | made => exact s.elim
  | thing a b =>
    obtain ⟨a0, a1, b0, b1⟩ := s
    have la : (Str.ofString (toString a)).length ≤ 61 := iT_len (i := a) (by omega) a1
    have lb : (Str.ofString (toString b)).length ≤ 61 := iT_len (i := b) (by omega) b1
    show r_ref_text _ _ _ _ _ [some (.tup [.str "thing", .int a, .int b])] h
    unfold r_ref_text
    walk_at "zgo"
    refine i_fInt (log_ok (by omega) a1) ?_
    walk_at "zgo"
    have le : Str.empty.length = 0 := rfl
    have ld : (Str.ofString ".").length = 1 := by decide +kernel
    refine i_jz ?hz ?_
    case hz => omega
    walk_at "zgo"
    refine i_jz ?hz ?_
    case hz => rw [Str.length_append]; omega
    walk_at "zgo"
    refine i_fInt (log_ok (by omega) b1) ?_
    walk_at "zgo"
    refine i_jz ?hz ?_
    case hz => rw [Str.length_append, Str.length_append]; omega
    rw [empty_app]
    walk_at "zgo"
    exact hq
theorem refT_len {r : RefD} (s : r.Sm) : (refT r).length ≤ 123 := by rw [len_tl, tl_refT]; exact s.len
theorem thT_len {th : Thing} (s : th.Sm) (s2 : th.refs.length ≤ 20) : (thT th).length ≤ 2501 := by rw [len_tl, tl_thT]; exact thL_len s s2
theorem hsT_len {hs : List Thing} (s : hs.length ≤ 20) (s2 : ∀ th ∈ hs, th.refs.length ≤ 20 ∧ th.Sm) : (hsT hs).length ≤ 50041 := by rw [len_tl, tl_hsT]; exact hsL_len s s2
theorem sum_len {m : Nat} : ∀ {ys : List Str}, (∀ y ∈ ys, y.length ≤ m) → (ys.map (·.length)).sum ≤ ys.length * m
  | [], _ => by simp
  | y :: ys, h => by
    have := h y (by simp)
    have := sum_len (ys := ys) fun z hz => h z (List.mem_cons_of_mem _ hz)
    simp only [List.map_cons, List.sum_cons, List.length_cons, Nat.add_mul]
    omega
theorem Thing.Sm.ref {th : Thing} (s : th.Sm) {r : RefD} (h : r ∈ th.refs) : r.Sm := by
  cases th with
  | box w => simp [Thing.refs] at h
  | shelf rs => exact s r h
  | relay q => exact s r h
  | maker => simp [Thing.refs] at h
  | stone => simp [Thing.refs] at h
theorem rd_thing_text {K : Fr} {p : Thing} {vs h Q} {X : XQ} (gd : Good K Q) (q : fs_thing_text.pre p vs h) (hp : ∀ v h', fs_thing_text.post p h v h' → Q v h') :
    r_thing_text (fun _ h' => Q .non h') Q (fun _ _ => False) (fun _ _ => False) (fun C v _ h' => X C v h') (startV ["thing", "ref"] vs) h := by
  obtain ⟨rfl, s, s2⟩ := q
  have hq : Q (.str (thT p)) h := hp _ _ ⟨rfl, rfl⟩
  clear hp
  have le : Str.empty.length = 0 := rfl
  have l1 : (Str.ofString "b").length = 1 := by decide +kernel
  have l2 : (Str.ofString "s").length = 1 := by decide +kernel
  have l3 : (Str.ofString "r").length = 1 := by decide +kernel
  have l4 : (Str.ofString ",").length = 1 := by decide +kernel
  show r_thing_text _ _ _ _ _ [some p.v, none] h
  unfold r_thing_text
  cases p with
  | box w =>
    unfold Thing.v
    have lw : (Str.ofString (toString w)).length ≤ 61 := iT_len s.1 s.2
    walk_at "zgo"
    refine i_jz ?hz ?_
    case hz => omega
    walk_at "zgo"
    refine i_fInt (log_ok s.1 s.2) ?_
    walk_at "zgo"
    refine i_jz ?hz ?_
    case hz => rw [Str.length_append]; omega
    rw [empty_app]
    walk_at "zgo"
    exact hq
  | shelf rs =>
    unfold Thing.v
    have hl : rs.length ≤ 20 := s2
    walk_at "zgo"
    refine ⟨_, rfl, ?_⟩
    refine lc_inv (fun k acc h3 => h3 = h ∧ acc = ((rs.take k).map refT).map Val.str) ⟨rfl, by simp⟩ ?_
    rintro k acc h3 ⟨rfl, rfl⟩
    refine ⟨trivial, fun hk => ?_, fun r hr => ?_⟩
    rotate_left
    · obtain ⟨r, hr2, rfl⟩ := map_get hr
      walk_at "zgo"
      refine c_ref_text (s r (by simpa [Thing.refs] using List.mem_of_getElem? hr2)) ?_
      refine ⟨by simp; omega, rfl, ?_⟩
      rw [List.take_succ, hr2, List.map_append, List.map_append]
      rfl
    rw [List.length_map] at hk
    rw [List.take_of_length_le hk]
    refine i_newF ?_
    walk_at "zgo"
    have hsum := sum_len (m := 123) (ys := rs.map refT) fun y hy => by
      obtain ⟨r, hr, rfl⟩ := List.mem_map.mp hy
      exact refT_len (s r (by simpa [Thing.refs] using hr))
    rw [List.length_map] at hsum
    refine i_join (.lst (.lst _)) (by rw [List.length_map, l4]; omega) ?_
    have lt := thT_len s s2
    unfold thT at lt
    rw [Str.length_append] at lt
    refine i_addS (by omega) ?_
    exact hq
  | relay r =>
    unfold Thing.v
    have hr : r.Sm := s r (by simp [Thing.refs])
    have lr := refT_len hr
    walk_at "zgo"
    refine c_ref_text hr ?_
    refine i_addS (by omega) ?_
    exact hq
  | maker =>
    unfold Thing.v
    walk_at "zgo"
    exact hq
  | stone =>
    unfold Thing.v
    walk_at "zgo"
    exact hq
theorem rd_house_text {K : Fr} {p : List Thing} {vs h Q} {X : XQ} (gd : Good K Q) (q : fs_house_text.pre p vs h) (hp : ∀ v h', fs_house_text.post p h v h' → Q v h') :
    r_house_text (fun _ h' => Q .non h') Q (fun _ _ => False) (fun _ _ => False) (fun C v _ h' => X C v h') (startV ["things", "thing"] vs) h := by
  obtain ⟨rfl, s, s2⟩ := q
  have hq : Q (.str (hsT p)) h := hp _ _ ⟨rfl, rfl⟩
  clear hp
  have l4 : (Str.ofString " ").length = 1 := by decide +kernel
  show r_house_text _ _ _ _ _ [some (.lst (p.map Thing.v)), none] h
  unfold r_house_text
  have hlm : (p.map Thing.v).length = p.length := List.length_map _
  walk_at "zgo"
  by_cases c : p = []
  · subst c
    walk_at "zgo"
    exact hq
  have hpos : 1 ≤ p.length := by cases p with
    | nil => exact absurd rfl c
    | cons => simp
  walk_at "zgo"
  refine lc_inv (fun k acc h3 => h3 = h ∧ acc = ((p.take k).map thT).map Val.str) ⟨rfl, by simp⟩ ?_
  rintro k acc h3 ⟨rfl, rfl⟩
  refine ⟨trivial, fun hk => ?_, fun r hr => ?_⟩
  rotate_left
  · obtain ⟨r, hr2, rfl⟩ := map_get hr
    have hm := s2 r (List.mem_of_getElem? hr2)
    walk_at "zgo"
    refine c_thing_text hm.2 hm.1 ?_
    refine ⟨by simp; omega, rfl, ?_⟩
    rw [List.take_succ, hr2, List.map_append, List.map_append]
    rfl
  rw [List.length_map] at hk
  rw [List.take_of_length_le hk]
  refine i_newF ?_
  walk_at "zgo"
  have hsum := sum_len (m := 2501) (ys := p.map thT) fun y hy => by
    obtain ⟨r, hr, rfl⟩ := List.mem_map.mp hy
    exact thT_len (s2 r hr).2 (s2 r hr).1
  rw [List.length_map] at hsum
  refine i_join (.lst (.lst _)) (by rw [List.length_map, l4]; omega) ?_
  unfold hsT at hq
  rw [if_neg c] at hq
  exact hq
/-! LT3 -/


/-! ### data of ints, texts, tuples, lists: == is = -/
mutual
def plD : PyData → Bool
  | .int _ => true
  | .str _ => true
  | .tuple xs => plDs xs
  | .list xs => plDs xs
  | _ => false
def plDs : List PyData → Bool
  | [] => true
  | x :: xs => plD x && plDs xs
end
mutual
theorem eqv_pl : ∀ (d e : PyData), plD d = true → plD e = true → (PyData.eqv d e = true ↔ d = e)
  | .int i, e, h1, h2 => by cases e <;> simp_all [PyData.eqv, plD]
  | .str i, e, h1, h2 => by cases e <;> simp_all [PyData.eqv, plD]
  | .tuple xs, .tuple ys, h1, h2 => by
    rw [PyData.eqv, eqvs_pl xs ys (by simpa [plD] using h1) (by simpa [plD] using h2)]
    simp
  | .list xs, .list ys, h1, h2 => by
    rw [PyData.eqv, eqvs_pl xs ys (by simpa [plD] using h1) (by simpa [plD] using h2)]
    simp
  | .tuple xs, .int _, _, _ => by simp [PyData.eqv]
  | .tuple xs, .str _, _, _ => by simp [PyData.eqv]
  | .tuple xs, .list _, _, _ => by simp [PyData.eqv]
  | .list xs, .int _, _, _ => by simp [PyData.eqv]
  | .list xs, .str _, _, _ => by simp [PyData.eqv]
  | .list xs, .tuple _, _, _ => by simp [PyData.eqv]
  | .none, _, h, _ => by simp [plD] at h
  | .bool _, _, h, _ => by simp [plD] at h
  | .dict _, _, h, _ => by simp [plD] at h
  | .tuple _, .none, _, h => by simp [plD] at h
  | .tuple _, .bool _, _, h => by simp [plD] at h
  | .tuple _, .dict _, _, h => by simp [plD] at h
  | .list _, .none, _, h => by simp [plD] at h
  | .list _, .bool _, _, h => by simp [plD] at h
  | .list _, .dict _, _, h => by simp [plD] at h
theorem eqvs_pl : ∀ (d e : List PyData), plDs d = true → plDs e = true → (PyData.eqvAll d e = true ↔ d = e)
  | [], [], _, _ => by simp [PyData.eqvAll]
  | [], _ :: _, _, _ => by simp [PyData.eqvAll]
  | _ :: _, [], _, _ => by simp [PyData.eqvAll]
  | x :: xs, y :: ys, h1, h2 => by
    simp only [plDs, Bool.and_eq_true] at h1 h2
    rw [PyData.eqvAll, Bool.and_eq_true, eqv_pl x y h1.1 h2.1, eqvs_pl xs ys h1.2 h2.2]
    simp
end
theorem plDs_map {α : Type} {f : α → PyData} (h : ∀ x, plD (f x) = true) : ∀ xs : List α, plDs (xs.map f) = true
  | [] => rfl
  | x :: xs => by simp [plDs, h x, plDs_map h xs]
theorem RefD.pl (r : RefD) : plD r.d = true := by cases r <;> rfl
theorem Thing.pl (t : Thing) : plD t.d = true := by
  cases t with
  | shelf rs => simp [Thing.d, plD, plDs, plDs_map RefD.pl]
  | relay r => simp [Thing.d, plD, plDs, r.pl]
  | _ => rfl
theorem rooms_pl (ws : Rooms) : plD (roomsD ws) = true := by
  simp only [roomsD, plD]
  exact plDs_map (fun hs => by simp only [houseD, plD]; exact plDs_map Thing.pl hs) ws
theorem RefD.d_inj {a b : RefD} (h : a.d = b.d) : a = b := by
  cases a <;> cases b <;> simp_all [RefD.d]
theorem map_inj' {α β : Type} {f : α → β} (h : ∀ a b, f a = f b → a = b) : ∀ {xs ys : List α}, xs.map f = ys.map f → xs = ys
  | [], [], _ => rfl
  | [], _ :: _, e => by simp at e
  | _ :: _, [], e => by simp at e
  | x :: xs, y :: ys, e => by
    simp only [List.map_cons, List.cons.injEq] at e
    rw [h x y e.1, map_inj' h e.2]
theorem Thing.d_inj {a b : Thing} (h : a.d = b.d) : a = b := by
  cases a <;> cases b <;> simp only [Thing.d, PyData.tuple.injEq, List.cons.injEq, PyData.str.injEq, PyData.int.injEq] at h <;>
    first | exact absurd h.1 (by decide +kernel) | skip
  · rw [h.2.1]
  · rw [map_inj' (fun _ _ => RefD.d_inj) h.2.1]
  · rw [RefD.d_inj h.2.1]
  · rfl
  · rfl
theorem roomsD_inj {a b : Rooms} (h : roomsD a = roomsD b) : a = b := by
  simp only [roomsD, PyData.list.injEq] at h
  exact map_inj' (fun x y e => by simp only [houseD, PyData.list.injEq] at e; exact map_inj' (fun _ _ => Thing.d_inj) e) h
theorem rooms_eqv (a b : Rooms) : PyData.eqv (roomsD a) (roomsD b) = decide (a = b) := by
  have e := eqv_pl _ _ (rooms_pl a) (rooms_pl b)
  by_cases c : a = b
  · rw [decide_eq_true c]
    exact e.mpr (by rw [c])
  · rw [decide_eq_false c]
    exact Bool.eq_false_iff.mpr fun z => c (roomsD_inj (e.mp z))
/-! ### the reading -/
def fs_shelf_in : FS where
  P := Str
  pre := fun z vs h => vs = [.str z] ∧ z.length ≤ 1000000
  post := fun z h v h' => v = shelfV (tl z) ∧ h' = h
theorem c_shelf_in {z : Str} {h : Hh} {E : XQ} {Q : KQ} (hz : z.length ≤ 1000000) (k : Q (shelfV (tl z)) h) : fs_shelf_in.sp [.str z] h E Q := ⟨z, ⟨rfl, hz⟩, fun v h' ⟨a, b⟩ => by subst a b; exact k, fun _ _ _ z => z.elim⟩
def fs_thing_in : FS where
  P := Str
  pre := fun z vs h => vs = [.str z] ∧ z.length ≤ 1000000
  post := fun z h v h' => v = thingV (tl z) ∧ h' = h
theorem c_thing_in {z : Str} {h : Hh} {E : XQ} {Q : KQ} (hz : z.length ≤ 1000000) (k : Q (thingV (tl z)) h) : fs_thing_in.sp [.str z] h E Q := ⟨z, ⟨rfl, hz⟩, fun v h' ⟨a, b⟩ => by subst a b; exact k, fun _ _ _ z => z.elim⟩
def houseP (l : List Nat) : List Val := if l = [45] then [] else (spl [32] 0 [] l).map thingV
def fs_house_in : FS where
  P := Str
  pre := fun z vs h => vs = [.str z] ∧ z.length ≤ 1000000
  post := fun z h v h' => v = .lst (houseP (tl z)) ∧ h' = h
theorem c_house_in {z : Str} {h : Hh} {E : XQ} {Q : KQ} (hz : z.length ≤ 1000000) (k : Q (.lst (houseP (tl z))) h) : fs_house_in.sp [.str z] h E Q := ⟨z, ⟨rfl, hz⟩, fun v h' ⟨a, b⟩ => by subst a b; exact k, fun _ _ _ z => z.elim⟩
def r_shelf_in : WS :=
  wSeq (wIf (wTv (wOp wEqS (wVar 0) (wC (.str "")))) (wRet (wTup (wCons (wC (.str "shelf")) (wCons (wTup (wNil)) (wNil))))) (wNext))
  (wSeq (wAsg (wLc (wiL (wBM "str" mSplit (wVar 0) (wCons (wC (.str ",")) (wNil)))) (tg1 1) wYes (wCall fs_ref_in [] (wCons (wVar 1) (wNil))) [1]) (wgName 2))
  (wSeq (wIf (wTv (wOp wInD (wC .non) (wVar 2))) (wRet (wC .non)) (wNext))
  (wRet (wTup (wCons (wC (.str "shelf")) (wCons (wCB cTuple (wCons (wVar 2) (wNil))) (wNil)))))))

def r_thing_in : WS :=
  wSeq (wIf (wTv (wOp wEqS (wVar 0) (wC (.str "m")))) (wRet (wTup (wCons (wC (.str "maker")) (wNil)))) (wNext))
  (wSeq (wIf (wTv (wOp wEqS (wVar 0) (wC (.str "x")))) (wRet (wTup (wCons (wC (.str "stone")) (wNil)))) (wNext))
  (wSeq (wIf (wAnd (wTv (wOp wEqS (wSl wSlS (wVar 0) (wNoPart) (wPart (wC (.int 1)))) (wC (.str "b")))) (wTv (wCall fs_is_signed [] (wCons (wSl wSlS (wVar 0) (wPart (wC (.int 1))) (wNoPart)) (wNil))))) (wRet (wTup (wCons (wC (.str "box")) (wCons (wCB cIntS (wCons (wSl wSlS (wVar 0) (wPart (wC (.int 1))) (wNoPart)) (wNil))) (wNil))))) (wNext))
  (wSeq (wIf (wTv (wOp wEqS (wSl wSlS (wVar 0) (wNoPart) (wPart (wC (.int 1)))) (wC (.str "s")))) (wRet (wCall fs_shelf_in [] (wCons (wSl wSlS (wVar 0) (wPart (wC (.int 1))) (wNoPart)) (wNil)))) (wNext))
  (wSeq (wIf (wAnd (wTv (wOp wEqS (wSl wSlS (wVar 0) (wNoPart) (wPart (wC (.int 1)))) (wC (.str "r")))) (wTv (wNotN (wCall fs_ref_in [] (wCons (wSl wSlS (wVar 0) (wPart (wC (.int 1))) (wNoPart)) (wNil)))))) (wRet (wTup (wCons (wC (.str "relay")) (wCons (wCall fs_ref_in [] (wCons (wSl wSlS (wVar 0) (wPart (wC (.int 1))) (wNoPart)) (wNil))) (wNil))))) (wNext))
  (wRet (wC .non))))))

def r_house_in : WS :=
  wSeq (wIf (wTv (wOp wEqS (wVar 0) (wC (.str "-")))) (wRet (wLst (wNil))) (wNext))
  (wRet (wLc (wiL (wBM "str" mSplit (wVar 0) (wCons (wC (.str " ")) (wNil)))) (tg1 1) wYes (wCall fs_thing_in [] (wCons (wVar 1) (wNil))) [1]))

theorem spl_len {S : List Nat} : ∀ {l : List Nat} {k : Nat} {acc p : List Nat}, p ∈ spl S k acc l → p.length ≤ acc.length + l.length
  | [], k, acc, p, h => by rw [spl_nil] at h; simp at h; subst h; omega
  | c :: r, 0, acc, p, h => by
    unfold spl at h
    split at h
    · rcases List.mem_cons.mp h with rfl | h
      · omega
      · have := spl_len h
        simp at this ⊢
        omega
    · have := spl_len h
      simp at this ⊢
      omega
  | c :: r, k + 1, acc, p, h => by
    have : p ∈ spl S k acc r := h
    have := spl_len this
    simp
    omega
theorem spl_many {S : List Nat} : ∀ {l : List Nat} {k : Nat} {acc : List Nat}, (spl S k acc l).length ≤ l.length + 1
  | [], k, acc => by rw [spl_nil]; simp
  | c :: r, 0, acc => by
    unfold spl
    split
    · have := spl_many (S := S) (l := r) (k := S.length - 1) (acc := [])
      simp
      omega
    · have := spl_many (S := S) (l := r) (k := 0) (acc := acc ++ [c])
      simp
      omega
  | c :: r, k + 1, acc => by
    have := spl_many (S := S) (l := r) (k := k) (acc := acc)
    show (spl S k acc r).length ≤ _
    simp
    omega
/-- a text split, its parts told by their signs -/
theorem split_parts {x : Str} {s : String} {S : List Nat} (e : tl (Str.ofString s) = S) (hS : S ≠ []) (hk : (Str.ofString s).cps.all (· < 256) = true) : (Txt.split x (Str.ofString s)).map tl = spl S 0 [] (tl x) := by
  have := split_spl x (Str.ofString s) (by rw [e]; exact hS) (kind_ok hk)
  rwa [e] at this
theorem part_len {x : Str} {s : String} {S : List Nat} (e : tl (Str.ofString s) = S) (hS : S ≠ []) (hk : (Str.ofString s).cps.all (· < 256) = true) {p : Str} (hp : p ∈ Txt.split x (Str.ofString s)) : p.length ≤ x.length := by
  have h1 : tl p ∈ spl S 0 [] (tl x) := by rw [← split_parts e hS hk]; exact List.mem_map.mpr ⟨p, hp, rfl⟩
  have := spl_len h1
  rw [len_tl p, len_tl x]
  simpa using this
theorem parts_many {x : Str} {s : String} {S : List Nat} (e : tl (Str.ofString s) = S) (hS : S ≠ []) (hk : (Str.ofString s).cps.all (· < 256) = true) : (Txt.split x (Str.ofString s)).length ≤ x.length + 1 := by
  have := spl_many (S := S) (l := tl x) (k := 0) (acc := [])
  rw [← split_parts e hS hk, List.length_map] at this
  rw [len_tl x]
  exact this
def refOD (o : Option (Nat × Nat)) : PyData := match o with
  | some (a, b) => (RefD.thing a b).d
  | none => .none
theorem refO_dv {h : Hh} : ∀ o, Dv h (refO o) (refOD o)
  | some (a, b) => (RefD.thing a b).dv
  | none => .non
theorem refOD_lay : ∀ o, LayD 1 (refOD o)
  | some (a, b) => (RefD.thing a b).lay
  | none => .none 1
theorem refOD_none (o : Option (Nat × Nat)) : PyData.eqv (refOD o) .none = !o.isSome := by
  cases o with
  | none => rfl
  | some p => rfl
theorem rd_shelf_in {K : Fr} {p : Str} {vs h Q} {X : XQ} (gd : Good K Q) (q : fs_shelf_in.pre p vs h) (hp : ∀ v h', fs_shelf_in.post p h v h' → Q v h') :
    r_shelf_in (fun _ h' => Q .non h') Q (fun _ _ => False) (fun _ _ => False) (fun C v _ h' => X C v h') (startV ["text", "word", "refs"] vs) h := by
  obtain ⟨rfl, hz⟩ := q
  have hq : ∀ b, shelfV (tl p) = b → Q b h := fun b e => hp _ _ ⟨by rw [e], rfl⟩
  clear hp
  have e44 : tl (Str.ofString ",") = [44] := by decide +kernel
  show r_shelf_in _ _ _ _ _ [some (.str p), none, none] h
  unfold r_shelf_in
  by_cases c0 : p = Str.ofString ""
  · walk_at "zgo"
    refine hq _ ?_
    rw [c0, show tl (Str.ofString "") = [] by decide +kernel]
    rfl
  have c1 : tl p ≠ [] := fun e => c0 ((str_iff (by decide +kernel)).mpr e)
  walk_at "zgo"
  refine i_split (by decide +kernel) (by omega) (i_newF ?_)
  walk_at "zgo"
  refine lc_inv (fun k acc h3 => h3 = h ∧ acc = ((Txt.split p (Str.ofString ",")).take k).map fun z => refO (refB (tl z))) ⟨rfl, by simp⟩ ?_
  rintro k acc h3 ⟨rfl, rfl⟩
  have many := parts_many (x := p) e44 (by simp) (by decide +kernel)
  refine ⟨trivial, fun hk => ?_, fun r hr => ?_⟩
  rotate_left
  · obtain ⟨z, hz2, rfl⟩ := map_get hr
    walk_at "zgo"
    refine c_ref_in (Nat.le_trans (part_len e44 (by simp) (by decide +kernel) (List.mem_of_getElem? hz2)) hz) ?_
    refine ⟨by have := (List.take_sublist k (Txt.split p (Str.ofString ","))).length_le; rw [List.length_map]; omega, rfl, ?_⟩
    rw [List.take_succ, hz2, List.map_append]
    rfl
  rw [List.length_map] at hk
  rw [List.take_of_length_le hk]
  have em : (Txt.split p (Str.ofString ",")).map (fun z => refO (refB (tl z))) = (shelfB (tl p)).map refO := by
    unfold shelfB
    rw [if_neg c1, ← split_parts e44 (by simp) (by decide +kernel), List.map_map, List.map_map]
    rfl
  rw [em]
  refine i_newF ?_
  walk_at "zgo"
  refine ⟨.none, (shelfB (tl p)).map refOD, .non, .lst (dvs_map refO_dv _), by decide +kernel, (LayD.list (n := 1) fun d hd => by
    obtain ⟨o, _, rfl⟩ := List.mem_map.mp hd
    exact refOD_lay o).shaped (by decide), ?_⟩
  have ea : ((shelfB (tl p)).map refOD).any (fun z => PyData.eqv z .none) = !(shelfB (tl p)).all Option.isSome := by
    rw [List.any_map]
    induction shelfB (tl p) with
    | nil => rfl
    | cons o os ih =>
      rw [List.any_cons, List.all_cons, ih]
      show (PyData.eqv (refOD o) .none || _) = _
      rw [refOD_none]
      cases o.isSome <;> simp
  rw [ea]
  cases ha : (shelfB (tl p)).all Option.isSome with
  | false =>
    walk_at "zgo"
    refine hq _ ?_
    unfold shelfV
    rw [ha]
    rfl
  | true =>
    walk_at "zgo"
    refine hq _ ?_
    unfold shelfV
    rw [ha]
    rfl
theorem rd_thing_in {K : Fr} {p : Str} {vs h Q} {X : XQ} (gd : Good K Q) (q : fs_thing_in.pre p vs h) (hp : ∀ v h', fs_thing_in.post p h v h' → Q v h') :
    r_thing_in (fun _ h' => Q .non h') Q (fun _ _ => False) (fun _ _ => False) (fun C v _ h' => X C v h') (startV ["word"] vs) h := by
  obtain ⟨rfl, hz⟩ := q
  have hq : ∀ b, thingV (tl p) = b → Q b h := fun b e => hp _ _ ⟨by rw [e], rfl⟩
  clear hp
  show r_thing_in _ _ _ _ _ [some (.str p)] h
  unfold r_thing_in
  generalize hR : wSeq (wIf (wTv (wOp wEqS _ (wC (Val.str (Str.ofString "s"))))) _ _) _ = REST
  have im := str_iff (x := p) (s := "m") (l := [109]) (by decide +kernel)
  have ix := str_iff (x := p) (s := "x") (l := [120]) (by decide +kernel)
  have ib := str_iff (x := cutS p none (some 1)) (s := "b") (l := [98]) (by decide +kernel)
  have is := str_iff (x := cutS p none (some 1)) (s := "s") (l := [115]) (by decide +kernel)
  have ir := str_iff (x := cutS p none (some 1)) (s := "r") (l := [114]) (by decide +kernel)
  rw [tl_cut_to] at ib is ir
  have cl : ∀ lo hi, (cutS p lo hi).length ≤ 1000000 := fun lo hi => cut_len _ _ _ hz
  unfold thingV at hq
  by_cases c1 : p = Str.ofString "m"
  · walk_at "zgo"
    exact hq _ (if_pos (im.mp c1))
  rw [if_neg (fun z => c1 (im.mpr z))] at hq
  by_cases c2 : p = Str.ofString "x"
  · walk_at "zgo"
    exact hq _ (if_pos (ix.mp c2))
  rw [if_neg (fun z => c2 (ix.mpr z))] at hq
  walk_at "zgo"
  refine i_slS (by omega) ?_
  have nxt : ¬ ((tl p).take 1 = [98] ∧ signB ((tl p).drop 1) = true) →
      REST (fun _ h' => Q .non h') Q (fun _ _ => False) (fun _ _ => False) (fun C v _ h' => X C v h') [some (.str p)] h := fun nb => by
    rw [if_neg nb] at hq
    rw [← hR]
    walk_at "zgo"
    refine i_slS (by omega) ?_
    by_cases c4 : cutS p none (some 1) = Str.ofString "s"
    · walk_at "zgo"
      refine i_slS (by omega) ?_
      walk_at "zgo"
      refine c_shelf_in (cl _ _) ?_
      rw [tl_cut_from]
      exact hq _ (if_pos (is.mp c4))
    rw [if_neg (fun z => c4 (is.mpr z))] at hq
    walk_at "zgo"
    refine i_slS (by omega) ?_
    by_cases c5 : cutS p none (some 1) = Str.ofString "r"
    · walk_at "zgo"
      refine i_slS (by omega) ?_
      walk_at "zgo"
      refine c_ref_in (cl _ _) ?_
      rw [tl_cut_from]
      cases er : refB ((tl p).drop 1) with
      | none =>
        rw [er] at hq
        walk_at "zgo"
        exact hq _ (if_neg fun z => by simp at z)
      | some ab =>
        rw [er] at hq
        walk_at "zgo"
        refine i_slS (by omega) ?_
        walk_at "zgo"
        refine c_ref_in (cl _ _) ?_
        rw [tl_cut_from, er]
        walk_at "zgo"
        exact hq _ (if_pos ⟨ir.mp c5, rfl⟩)
    · walk_at "zgo"
      exact hq _ (if_neg fun z => c5 (ir.mpr z.1))
  by_cases c3 : cutS p none (some 1) = Str.ofString "b"
  · walk_at "zgo"
    refine i_slS (by omega) ?_
    walk_at "zgo"
    refine c_is_signed (cl _ _) ?_
    rw [tl_cut_from]
    cases sb : signB ((tl p).drop 1) with
    | true =>
      walk_at "zgo"
      refine i_slS (by omega) ?_
      walk_at "zgo"
      have sb2 : signB (tl (cutS p (some 1) none)) = true := by rw [tl_cut_from]; exact sb
      obtain ⟨i1, i2⟩ := sign_int sb2
      refine i_intS i1 (Nat.le_trans i2 (by decide)) ?_
      rw [tl_cut_from]
      walk_at "zgo"
      exact hq _ (if_pos ⟨ib.mp c3, sb⟩)
    | false =>
      walk_at "zgo"
      exact nxt fun z => by rw [sb] at z; exact Bool.false_ne_true z.2
  · walk_at "zgo"
    exact nxt fun z => c3 (ib.mpr z.1)
theorem rd_house_in {K : Fr} {p : Str} {vs h Q} {X : XQ} (gd : Good K Q) (q : fs_house_in.pre p vs h) (hp : ∀ v h', fs_house_in.post p h v h' → Q v h') :
    r_house_in (fun _ h' => Q .non h') Q (fun _ _ => False) (fun _ _ => False) (fun C v _ h' => X C v h') (startV ["text", "word"] vs) h := by
  obtain ⟨rfl, hz⟩ := q
  have hq : ∀ b, .lst (houseP (tl p)) = b → Q b h := fun b e => hp _ _ ⟨by rw [e], rfl⟩
  clear hp
  have e32 : tl (Str.ofString " ") = [32] := by decide +kernel
  have im := str_iff (x := p) (s := "-") (l := [45]) (by decide +kernel)
  show r_house_in _ _ _ _ _ [some (.str p), none] h
  unfold r_house_in
  by_cases c0 : p = Str.ofString "-"
  · walk_at "zgo"
    refine i_newF (hq _ ?_)
    unfold houseP
    rw [if_pos (im.mp c0)]
  walk_at "zgo"
  refine i_split (by decide +kernel) (by omega) (i_newF ?_)
  walk_at "zgo"
  refine lc_inv (fun k acc h3 => h3 = h ∧ acc = ((Txt.split p (Str.ofString " ")).take k).map fun z => thingV (tl z)) ⟨rfl, by simp⟩ ?_
  rintro k acc h3 ⟨rfl, rfl⟩
  have many := parts_many (x := p) e32 (by simp) (by decide +kernel)
  refine ⟨trivial, fun hk => ?_, fun r hr => ?_⟩
  rotate_left
  · obtain ⟨z, hz2, rfl⟩ := map_get hr
    walk_at "zgo"
    refine c_thing_in (Nat.le_trans (part_len e32 (by simp) (by decide +kernel) (List.mem_of_getElem? hz2)) hz) ?_
    refine ⟨by have := (List.take_sublist k (Txt.split p (Str.ofString " "))).length_le; rw [List.length_map]; omega, rfl, ?_⟩
    rw [List.take_succ, hz2, List.map_append]
    rfl
  rw [List.length_map] at hk
  rw [List.take_of_length_le hk]
  refine i_newF (hq _ ?_)
  unfold houseP
  rw [if_neg (fun z => c0 (im.mpr z)), ← split_parts e32 (by simp) (by decide +kernel), List.map_map]
  rfl
/-! LT4 -/


def fs_World___str__ (cl : Str → Addr) : FS where
  P := Rooms
  pre := fun ws vs h => vs = [worldV cl ws] ∧ SmT ws
  post := fun ws h v h' => v = .str (wsT ws) ∧ h' = h
theorem c_World_str {cl : Str → Addr} {ws : Rooms} {h : Hh} {E : XQ} {Q : KQ} (s : SmT ws) (k : Q (.str (wsT ws)) h) : (fs_World___str__ cl).sp [worldV cl ws] h E Q := ⟨ws, ⟨rfl, s⟩, fun v h' ⟨a, b⟩ => by subst a b; exact k, fun _ _ _ z => z.elim⟩
def fs_show_world (cl : Str → Addr) : FS where
  P := Rooms
  pre := fun ws vs h => vs = [worldV cl ws] ∧ SmT ws
  post := fun ws h v h' => v = .str (wsT ws) ∧ h' = h
theorem c_show_world {cl : Str → Addr} {ws : Rooms} {h : Hh} {E : XQ} {Q : KQ} (s : SmT ws) (k : Q (.str (wsT ws)) h) : (fs_show_world cl).sp [worldV cl ws] h E Q := ⟨ws, ⟨rfl, s⟩, fun v h' ⟨a, b⟩ => by subst a b; exact k, fun _ _ _ z => z.elim⟩
def fs_World___eq__ (cl : Str → Addr) : FS where
  P := Rooms × Rooms
  pre := fun (a, b) vs h => vs = [worldV cl a, worldV cl b]
  post := fun (a, b) h v h' => v = .bl (decide (a = b)) ∧ h' = h
theorem c_World_eq {cl : Str → Addr} {a b : Rooms} {h : Hh} {E : XQ} {Q : KQ} (k : Q (.bl (decide (a = b))) h) : (fs_World___eq__ cl).sp [worldV cl a, worldV cl b] h E Q := ⟨(a, b), rfl, fun v h' ⟨a, b⟩ => by subst a b; exact k, fun _ _ _ z => z.elim⟩
def fs_read_world (cl : Str → Addr) : FS where
  P := Rooms
  pre := fun ws vs h => vs = [.str (wsT ws)] ∧ SmT ws ∧ okWorld ws = true
  post := fun ws h v h' => v = worldV cl ws ∧ h' = h
theorem c_read_world {cl : Str → Addr} {ws : Rooms} {h : Hh} {E : XQ} {Q : KQ} (s : SmT ws) (ok : okWorld ws = true) (k : Q (worldV cl ws) h) : (fs_read_world cl).sp [.str (wsT ws)] h E Q := ⟨ws, ⟨rfl, s, ok⟩, fun v h' ⟨a, b⟩ => by subst a b; exact k, fun _ _ _ z => z.elim⟩
def r_World___str__ (cl : Str → Addr) : WS :=
  wRet (wBM "str" mJoin (wC (.str " ; ")) (wCons (wLc (wiL (wFld (cl "World") (wVar 0) "houses_kept")) (tg1 1) wYes (wCall fs_house_text [] (wCons (wVar 1) (wNil))) [1]) (wNil)))

def r_show_world (cl : Str → Addr) : WS :=
  wRet (wBM "str" mJoin (wC (.str " ; ")) (wCons (wLc (wiR1 (wCB (cLenO (cl "World") (fs_World___len__ cl)) (wCons (wVar 0) (wNil)))) (tg1 1) wYes (wCall fs_house_text [] (wCons (wMeth (cl "World") "house" (fs_World_house cl) [] (wVar 0) (wCons (wVar 1) (wNil))) (wNil))) [1]) (wNil)))

def r_World___eq__ (cl : Str → Addr) : WS :=
  wRet (wOp wEqD (wFld (cl "World") (wVar 0) "houses_kept") (wFld (cl "World") (wVar 1) "houses_kept"))

def r_read_world (cl : Str → Addr) : WS :=
  wSeq (wAsg (wLc (wiL (wBM "str" mSplit (wVar 0) (wCons (wC (.str " ; ")) (wNil)))) (tg1 1) wYes (wCall fs_house_in [] (wCons (wVar 1) (wNil))) [1]) (wgName 2))
  (wSeq (wFor (wiL (wVar 2)) (wgName 3)
  (wIf (wTv (wOp wInD (wC .non) (wVar 3))) (wRaise (cl "NoText") (wVar 0)) (wNext)))
  (wTryThru (wRet (wMake (cl "World") (fs_World___init__ cl) [] (wCons (wVar 2) (wNil))))))

theorem SmT.small {ws : Rooms} (s : SmT ws) : SmallW ws := ⟨by have := s.len; omega, fun hs hh => by have := s.house hs hh; omega⟩
theorem join_ws {ws : Rooms} (s : SmT ws) : ((ws.map hsT).map (·.length)).sum + (ws.map hsT).length * (Str.ofString " ; ").length ≤ 16777216 := by
  have hsum := sum_len (m := 50041) (ys := ws.map hsT) fun y hy => by
    obtain ⟨r, hr, rfl⟩ := List.mem_map.mp hy
    exact hsT_len (s.house r hr) (s.refs r hr)
  have l : (Str.ofString " ; ").length = 3 := by decide +kernel
  have := s.len
  rw [List.length_map] at hsum ⊢
  rw [l]
  omega
theorem rd_World___str__ {K : Fr} {cl : Str → Addr} {p : Rooms} {vs h Q} {X : XQ} (gd : Good K Q) (q : (fs_World___str__ cl).pre p vs h) (hp : ∀ v h', (fs_World___str__ cl).post p h v h' → Q v h') :
    r_World___str__ cl (fun _ h' => Q .non h') Q (fun _ _ => False) (fun _ _ => False) (fun C v _ h' => X C v h') (startV ["self", "things"] vs) h := by
  obtain ⟨rfl, s⟩ := q
  have hq : Q (.str (wsT p)) h := hp _ _ ⟨rfl, rfl⟩
  clear hp
  show r_World___str__ _ _ _ _ _ _ [some (.obj (cl "World") [("houses_kept", .lst (List.map houseV p))]), none] h
  unfold r_World___str__
  have hl := s.len
  walk_at "zgo"
  refine lc_inv (fun k acc h3 => h3 = h ∧ acc = ((p.take k).map hsT).map Val.str) ⟨rfl, by simp⟩ ?_
  rintro k acc h3 ⟨rfl, rfl⟩
  refine ⟨trivial, fun hk => ?_, fun r hr => ?_⟩
  rotate_left
  · obtain ⟨r, hr2, rfl⟩ := map_get hr
    have hm := List.mem_of_getElem? hr2
    walk_at "zgo"
    refine c_house_text (s.house r hm) (s.refs r hm) ?_
    refine ⟨by simp; omega, rfl, ?_⟩
    rw [List.take_succ, hr2, List.map_append, List.map_append]
    rfl
  rw [List.length_map] at hk
  rw [List.take_of_length_le hk]
  refine i_newF ?_
  walk_at "zgo"
  refine i_join (.lst (.lst _)) (join_ws s) ?_
  exact hq
theorem rd_show_world {K : Fr} {cl : Str → Addr} {p : Rooms} {vs h Q} {X : XQ} (gd : Good K Q) (q : (fs_show_world cl).pre p vs h) (hp : ∀ v h', (fs_show_world cl).post p h v h' → Q v h') :
    r_show_world cl (fun _ h' => Q .non h') Q (fun _ _ => False) (fun _ _ => False) (fun C v _ h' => X C v h') (startV ["world", "number"] vs) h := by
  obtain ⟨rfl, s⟩ := q
  have hq : Q (.str (wsT p)) h := hp _ _ ⟨rfl, rfl⟩
  clear hp
  show r_show_world _ _ _ _ _ _ [some (worldV cl p), none] h
  unfold r_show_world
  have hl := s.len
  walk_at "zgo"
  refine c_World_len s.small ⟨_, rfl, ⟨by omega, by omega⟩, ?_⟩
  walk_at "zgo"
  refine lc_inv (fun k acc h3 => h3 = h ∧ acc = ((p.take k).map hsT).map Val.str) ⟨rfl, by simp⟩ ?_
  rintro k acc h3 ⟨rfl, rfl⟩
  refine ⟨trivial, fun hk => ?_, fun r hr => ?_⟩
  rotate_left
  · obtain ⟨hi, rfl⟩ := rng_get hr
    have hi' : k < p.length := by simpa using hi
    have hg : p[k]? = some p[k] := List.getElem?_eq_getElem hi'
    have hm : p[k] ∈ p := List.getElem_mem hi'
    walk_at "zgo"
    refine c_World_house (hs := p[k]) s.small (by omega) (by rw [show (0 + (k : Int)).toNat = k by omega]; exact hg) ?_
    walk_at "zgo"
    refine c_house_text (s.house _ hm) (s.refs _ hm) ?_
    refine ⟨by simp; omega, rfl, ?_⟩
    rw [List.take_succ, hg, List.map_append, List.map_append]
    rfl
  rw [rng_len] at hk
  rw [List.take_of_length_le (by omega)]
  refine i_newF ?_
  walk_at "zgo"
  refine i_join (.lst (.lst _)) (join_ws s) ?_
  exact hq
theorem rd_World___eq__ {K : Fr} {cl : Str → Addr} {p : Rooms × Rooms} {vs h Q} {X : XQ} (gd : Good K Q) (q : (fs_World___eq__ cl).pre p vs h) (hp : ∀ v h', (fs_World___eq__ cl).post p h v h' → Q v h') :
    r_World___eq__ cl (fun _ h' => Q .non h') Q (fun _ _ => False) (fun _ _ => False) (fun C v _ h' => X C v h') (startV ["self", "other"] vs) h := by
  obtain ⟨a, b⟩ := p
  have q : vs = [worldV cl a, worldV cl b] := q
  subst q
  have hq : Q (.bl (decide (a = b))) h := hp _ _ ⟨rfl, rfl⟩
  clear hp
  show r_World___eq__ _ _ _ _ _ _ [some (.obj (cl "World") [("houses_kept", .lst (List.map houseV a))]), some (.obj (cl "World") [("houses_kept", .lst (List.map houseV b))])] h
  unfold r_World___eq__
  walk_at "zgo"
  refine ⟨_, _, roomsV_dv a, roomsV_dv b, (rooms_lay a).shaped (by decide), (rooms_lay b).shaped (by decide), ?_⟩
  rw [rooms_eqv]
  exact hq
theorem houseP_back {hs : List Thing} (h : ∀ th ∈ hs, th.Sm) : houseP (hsL hs) = hs.map Thing.v := by
  unfold houseP
  by_cases c : hs = []
  · subst c
    rfl
  · rw [if_neg (hsL_dash c), hs_split c, List.map_map]
    exact List.map_congr_left fun th ht => thingV_back (h th ht)
theorem ne_non {h : Hh} {hs : List Thing} {Q : KQ} (q : Q (.bl false) h) : wInD .non (.lst (hs.map Thing.v)) h Q := by
  refine ⟨.none, hs.map Thing.d, .non, .lst (dvs_map Thing.dv hs), by decide +kernel, (house_lay hs).shaped (by decide), ?_⟩
  have : (hs.map Thing.d).any (fun z => PyData.eqv z .none) = false := by
    rw [List.any_map, List.any_eq_false]
    intro th _
    cases th <;> simp [Thing.d, PyData.eqv]
  rw [this]
  exact q
theorem rd_read_world {K : Fr} {cl : Str → Addr} {p : Rooms} {vs h Q} {X : XQ} (gd : Good K Q) (q : (fs_read_world cl).pre p vs h) (hp : ∀ v h', (fs_read_world cl).post p h v h' → Q v h') (hx : ∀ C v h', (fs_read_world cl).xpost p h C v h' → X C v h') :
    r_read_world cl (fun _ h' => Q .non h') Q (fun _ _ => False) (fun _ _ => False) (fun C v _ h' => X C v h') (startV ["text", "part", "houses", "things"] vs) h := by
  obtain ⟨rfl, s, ok⟩ := q
  have hq : Q (worldV cl p) h := hp _ _ ⟨rfl, rfl⟩
  clear hp
  show r_read_world _ _ _ _ _ _ [some (.str (wsT p)), none, none, none] h
  unfold r_read_world
  have hl := s.len
  have ne : p ≠ [] := fun z => by subst z; simp [okWorld] at ok
  have e3 : tl (Str.ofString " ; ") = [32, 59, 32] := by decide +kernel
  have sp : Txt.split (wsT p) (Str.ofString " ; ") = p.map hsT := by
    refine map_tl_inj ?_
    rw [split_parts e3 (by simp) (by decide +kernel), tl_wsT, ws_split ne, List.map_map]
    exact List.map_congr_left fun hs _ => (tl_hsT hs).symm
  have lw : (wsT p).length ≤ 1000881 := by rw [len_tl, tl_wsT]; exact wsL_len s
  walk_at "zgo"
  refine i_split (by decide +kernel) (by omega) (i_newF ?_)
  rw [sp]
  walk_at "zgo"
  refine lc_inv (fun k acc h3 => h3 = h ∧ acc = (p.take k).map houseV) ⟨rfl, by simp⟩ ?_
  rintro k acc h3 ⟨rfl, rfl⟩
  refine ⟨trivial, fun hk => ?_, fun r hr => ?_⟩
  rotate_left
  · obtain ⟨z, hz, rfl⟩ := map_get hr
    obtain ⟨hs, hhs, rfl⟩ : ∃ hs, p[k]? = some hs ∧ hsT hs = z := by
      rw [List.getElem?_map] at hz
      cases e : p[k]? with
      | none => rw [e] at hz; cases hz
      | some hs => rw [e] at hz; exact ⟨hs, rfl, Option.some.inj hz⟩
    have hm := List.mem_of_getElem? hhs
    have lh := hsT_len (s.house hs hm) (s.refs hs hm)
    walk_at "zgo"
    refine c_house_in (by omega) ?_
    rw [tl_hsT, houseP_back fun th ht => (s.refs hs hm th ht).2]
    refine ⟨by simp; omega, rfl, ?_⟩
    rw [List.take_succ, hhs, List.map_append]
    rfl
  rw [List.length_map, List.length_map] at hk
  rw [List.take_of_length_le hk]
  refine i_newF ?_
  walk_at "zgo"
  refine for_inv (fun i ρ h' => h' = h3 ∧ ∃ a b : Option Val, ρ = [some (.str (wsT p)), a, some (.lst (p.map houseV)), b]) ⟨rfl, _, _, rfl⟩ ?_
  rintro i ρ h' ⟨rfl, a, b, rfl⟩
  refine ⟨trivial, fun _ => ?_, fun z hz => ?_⟩
  · walk_at "zgo"
    refine c_World_mk (HsAt.frozen p) s.small ok ?_
    exact hq
  · obtain ⟨hs, hhs, rfl⟩ := map_get hz
    unfold houseV
    walk_at "zgo"
    refine ne_non ?_
    walk_at "zgo"
    exact ⟨rfl, _, _, rfl⟩
/-! LT5 -/


def fs_law_ref_shown : FS where
  P := RefD
  pre := fun r vs h => vs = [r.v] ∧ r.Sm
  post := fun r h v h' => v = .str (refT r) ∧ h' = h
theorem c_law_ref_shown {r : RefD} {h : Hh} {E : XQ} {Q : KQ} (s : r.Sm) (k : Q (.str (refT r)) h) : fs_law_ref_shown.sp [r.v] h E Q := ⟨r, ⟨rfl, s⟩, fun v h' ⟨a, b⟩ => by subst a b; exact k, fun _ _ _ z => z.elim⟩
def fs_law_thing_shown : FS where
  P := Thing
  pre := fun th vs h => vs = [th.v] ∧ th.Sm ∧ th.refs.length ≤ 20
  post := fun th h v h' => v = .str (thT th) ∧ h' = h
theorem c_law_thing_shown {r : Thing} {h : Hh} {E : XQ} {Q : KQ} (s : r.Sm) (s2 : r.refs.length ≤ 20) (k : Q (.str (thT r)) h) : fs_law_thing_shown.sp [r.v] h E Q := ⟨r, ⟨rfl, s, s2⟩, fun v h' ⟨a, b⟩ => by subst a b; exact k, fun _ _ _ z => z.elim⟩
def fs_law_shown : FS where
  P := Rooms
  pre := fun ws vs h => vs = [roomsV ws] ∧ SmT ws
  post := fun ws h v h' => v = .str (wsT ws) ∧ h' = h
theorem c_law_shown {ws : Rooms} {h : Hh} {E : XQ} {Q : KQ} (s : SmT ws) (k : Q (.str (wsT ws)) h) : fs_law_shown.sp [roomsV ws] h E Q := ⟨ws, ⟨rfl, s⟩, fun v h' ⟨a, b⟩ => by subst a b; exact k, fun _ _ _ z => z.elim⟩
def fs_law_shorter : FS where
  P := Rooms
  pre := fun ws vs h => vs = [roomsV ws] ∧ WorldOk ws
  post := fun ws h v h' => ∃ us, v = roomsV us ∧ WorldOk us ∧ h' = h
theorem c_law_shorter {ws : Rooms} {h : Hh} {E : XQ} {Q : KQ} (s : WorldOk ws) (k : ∀ us, WorldOk us → Q (roomsV us) h) : fs_law_shorter.sp [roomsV ws] h E Q := ⟨ws, ⟨rfl, s⟩, fun v h' ⟨us, a, o, b⟩ => by subst a b; exact k us o, fun _ _ _ z => z.elim⟩
def r_law_ref_shown : WS :=
  wRet (wOp wAddS (wOp wAddS (wCB cStr (wCons (wOp wIx (wVar 0) (wC (.int 1))) (wNil))) (wC (.str "."))) (wCB cStr (wCons (wOp wIx (wVar 0) (wC (.int 2))) (wNil))))

def r_law_thing_shown : WS :=
  wSeq (wIf (wTv (wOp wEqS (wOp wIx (wVar 0) (wC (.int 0))) (wC (.str "box")))) (wRet (wOp wAddS (wC (.str "b")) (wCB cStr (wCons (wOp wIx (wVar 0) (wC (.int 1))) (wNil))))) (wNext))
  (wSeq (wIf (wTv (wOp wEqS (wOp wIx (wVar 0) (wC (.int 0))) (wC (.str "shelf")))) (wRet (wOp wAddS (wC (.str "s")) (wBM "str" mJoin (wC (.str ",")) (wCons (wLc (wiT (wOp wIx (wVar 0) (wC (.int 1)))) (tg1 1) wYes (wCall fs_law_ref_shown [] (wCons (wVar 1) (wNil))) [1]) (wNil))))) (wNext))
  (wSeq (wIf (wTv (wOp wEqS (wOp wIx (wVar 0) (wC (.int 0))) (wC (.str "relay")))) (wRet (wOp wAddS (wC (.str "r")) (wCall fs_law_ref_shown [] (wCons (wOp wIx (wVar 0) (wC (.int 1))) (wNil))))) (wNext))
  (wRet (wOp wIx (wLst (wCons (wC (.str "m")) (wCons (wC (.str "x")) (wNil)))) (wCB cInt (wCons (wOp wEqS (wOp wIx (wVar 0) (wC (.int 0))) (wC (.str "stone"))) (wNil)))))))

def r_law_shown : WS :=
  wSeq (wAsg (wLst (wNil)) (wgName 1))
  (wSeq (wFor (wiL (wVar 0)) (wgName 2)
  (wSeq (wAsg (wBM "str" mJoin (wC (.str " ")) (wCons (wLc (wiL (wVar 2)) (tg1 3) wYes (wCall fs_law_thing_shown [] (wCons (wVar 3) (wNil))) [3]) (wNil))) (wgName 4))
  (wSeq (wIf (wTv (wOp wEqD (wVar 2) (wLst (wNil)))) (wAsg (wC (.str "-")) (wgName 4)) (wNext))
  (wExpr (wBM "list" mAppend (wVar 1) (wCons (wVar 4) (wNil)))))))
  (wRet (wBM "str" mJoin (wC (.str " ; ")) (wCons (wVar 1) (wNil)))))

def r_law_shorter : WS :=
  wSeq (wIf (wTv (wOp wLe (wCB cLen (wCons (wCall fs_law_shown [] (wCons (wVar 0) (wNil))) (wNil))) (wC (.int 2000)))) (wRet (wVar 0)) (wNext))
  (wSeq (wAsg (wLst (wNil)) (wgName 1))
  (wSeq (wFor (wiL (wVar 0)) (wgName 2)
  (wSeq (wAsg (wLst (wNil)) (wgName 3))
  (wSeq (wFor (wiL (wVar 2)) (wgName 4)
  (wSeq (wIf (wTv (wOp wEqS (wOp wIx (wVar 4) (wC (.int 0))) (wC (.str "box")))) (wAsg (wTup (wCons (wC (.str "box")) (wCons (wOp wMod (wOp wIx (wVar 4) (wC (.int 1))) (wC (.int 10))) (wNil)))) (wgName 4)) (wNext))
  (wSeq (wIf (wTv (wOp wEqS (wOp wIx (wVar 4) (wC (.int 0))) (wC (.str "shelf")))) (wAsg (wTup (wCons (wC (.str "shelf")) (wCons (wSl wSlT (wOp wIx (wVar 4) (wC (.int 1))) (wNoPart) (wPart (wC (.int 2)))) (wNil)))) (wgName 4)) (wNext))
  (wExpr (wBM "list" mAppend (wVar 3) (wCons (wVar 4) (wNil)))))))
  (wExpr (wBM "list" mAppend (wVar 1) (wCons (wVar 3) (wNil)))))))
  (wRet (wVar 1))))

theorem rd_law_ref_shown {K : Fr} {p : RefD} {vs h Q} {X : XQ} (gd : Good K Q) (q : fs_law_ref_shown.pre p vs h) (hp : ∀ v h', fs_law_ref_shown.post p h v h' → Q v h') :
    r_law_ref_shown (fun _ h' => Q .non h') Q (fun _ _ => False) (fun _ _ => False) (fun C v _ h' => X C v h') (startV ["ref"] vs) h := by
  obtain ⟨rfl, s⟩ := q
  have hq : Q (.str (refT p)) h := hp _ _ ⟨rfl, rfl⟩
  clear hp
  cases p with
  | made => exact s.elim
  | thing a b =>
    obtain ⟨a0, a1, b0, b1⟩ := s
    have la : (Str.ofString (toString a)).length ≤ 61 := iT_len (i := a) (by omega) a1
    have lb : (Str.ofString (toString b)).length ≤ 61 := iT_len (i := b) (by omega) b1
    have ld : (Str.ofString ".").length = 1 := by decide +kernel
    show r_law_ref_shown _ _ _ _ _ [some (.tup [.str "thing", .int a, .int b])] h
    unfold r_law_ref_shown
    walk_at "zgo"
    refine i_str (log_ok (by omega) a1) ?_
    walk_at "zgo"
    refine i_addS (by omega) ?_
    walk_at "zgo"
    refine i_str (log_ok (by omega) b1) ?_
    refine i_addS (by rw [Str.length_append]; omega) ?_
    exact hq
theorem rd_law_thing_shown {K : Fr} {p : Thing} {vs h Q} {X : XQ} (gd : Good K Q) (q : fs_law_thing_shown.pre p vs h) (hp : ∀ v h', fs_law_thing_shown.post p h v h' → Q v h') :
    r_law_thing_shown (fun _ h' => Q .non h') Q (fun _ _ => False) (fun _ _ => False) (fun C v _ h' => X C v h') (startV ["thing", "ref"] vs) h := by
  obtain ⟨rfl, s, s2⟩ := q
  have hq : Q (.str (thT p)) h := hp _ _ ⟨rfl, rfl⟩
  clear hp
  have l1 : (Str.ofString "b").length = 1 := by decide +kernel
  have l2 : (Str.ofString "s").length = 1 := by decide +kernel
  have l3 : (Str.ofString "r").length = 1 := by decide +kernel
  have l4 : (Str.ofString ",").length = 1 := by decide +kernel
  show r_law_thing_shown _ _ _ _ _ [some p.v, none] h
  unfold r_law_thing_shown
  cases p with
  | box w =>
    unfold Thing.v
    have lw : (Str.ofString (toString w)).length ≤ 61 := iT_len s.1 s.2
    walk_at "zgo"
    refine i_str (log_ok s.1 s.2) ?_
    refine i_addS (by omega) ?_
    exact hq
  | shelf rs =>
    unfold Thing.v
    have hl : rs.length ≤ 20 := s2
    walk_at "zgo"
    refine ⟨_, rfl, ?_⟩
    refine lc_inv (fun k acc h3 => h3 = h ∧ acc = ((rs.take k).map refT).map Val.str) ⟨rfl, by simp⟩ ?_
    rintro k acc h3 ⟨rfl, rfl⟩
    refine ⟨trivial, fun hk => ?_, fun r hr => ?_⟩
    rotate_left
    · obtain ⟨r, hr2, rfl⟩ := map_get hr
      walk_at "zgo"
      refine c_law_ref_shown (s r (by simpa [Thing.refs] using List.mem_of_getElem? hr2)) ?_
      refine ⟨by simp; omega, rfl, ?_⟩
      rw [List.take_succ, hr2, List.map_append, List.map_append]
      rfl
    rw [List.length_map] at hk
    rw [List.take_of_length_le hk]
    refine i_newF ?_
    walk_at "zgo"
    have hsum := sum_len (m := 123) (ys := rs.map refT) fun y hy => by
      obtain ⟨r, hr, rfl⟩ := List.mem_map.mp hy
      exact refT_len (s r (by simpa [Thing.refs] using hr))
    rw [List.length_map] at hsum
    refine i_join (.lst (.lst _)) (by rw [List.length_map, l4]; omega) ?_
    have lt := thT_len s s2
    unfold thT at lt
    rw [Str.length_append] at lt
    refine i_addS (by omega) ?_
    exact hq
  | relay r =>
    unfold Thing.v
    have hr : r.Sm := s r (by simp [Thing.refs])
    have lr := refT_len hr
    walk_at "zgo"
    refine c_law_ref_shown hr ?_
    refine i_addS (by omega) ?_
    exact hq
  | maker =>
    unfold Thing.v
    walk_at "zgo"
    refine i_newF ?_
    walk_at "zgo"
    exact hq
  | stone =>
    unfold Thing.v
    walk_at "zgo"
    refine i_newF ?_
    walk_at "zgo"
    exact hq
theorem rd_law_shown {K : Fr} {p : Rooms} {vs h Q} {X : XQ} (gd : Good K Q) (q : fs_law_shown.pre p vs h) (hp : ∀ v h', fs_law_shown.post p h v h' → Q v h') :
    r_law_shown (fun _ h' => Q .non h') Q (fun _ _ => False) (fun _ _ => False) (fun C v _ h' => X C v h') (startV ["houses", "parts", "things", "thing", "part"] vs) h := by
  obtain ⟨rfl, s⟩ := q
  have hq : Q (.str (wsT p)) h := hp _ _ ⟨rfl, rfl⟩
  clear hp
  have l4 : (Str.ofString " ").length = 1 := by decide +kernel
  show r_law_shown _ _ _ _ _ [some (.lst (p.map houseV)), none, none, none, none] h
  unfold r_law_shown
  have hl := s.len
  walk_at "zgo"
  refine i_newO fun a ha => ?_
  walk_at "zgo"
  refine for_inv (fun i ρ h' => h' = hup h a (.lst (((p.take i).map hsT).map Val.str)) ∧ ∃ b c d : Option Val, ρ = [some (.lst (p.map houseV)), some (.ref a), b, c, d]) ⟨by simp, _, _, _, rfl⟩ ?_
  rintro i ρ h' ⟨rfl, b, c, d, rfl⟩
  refine ⟨trivial, fun hi => ?_, fun z hz => ?_⟩
  · rw [List.length_map] at hi
    rw [List.take_of_length_le hi]
    walk_at "zgo"
    refine i_join (.lst (.ref hup_same)) (join_ws s) ?_
    refine gd.drop (h' := h) (fun b o hb => ?_) hq
    rw [hup_ne (fun z => by subst z; rw [ha] at hb; cases hb)]
    exact hb
  · obtain ⟨hs, hhs, rfl⟩ := map_get hz
    have hm := List.mem_of_getElem? hhs
    have hl1 := s.house hs hm
    have hl2 := s.refs hs hm
    unfold houseV
    generalize hH : hup h a (.lst (((p.take i).map hsT).map Val.str)) = H1
    have ea : H1 a = some (.lst (((p.take i).map hsT).map Val.str)) := by rw [← hH]; exact hup_same
    walk_at "zgo"
    refine lc_inv (fun k acc h3 => h3 = H1 ∧ acc = ((hs.take k).map thT).map Val.str) ⟨rfl, by simp⟩ ?_
    rintro k acc h3 ⟨rfl, rfl⟩
    refine ⟨trivial, fun hk => ?_, fun r hr => ?_⟩
    rotate_left
    · obtain ⟨r, hr2, rfl⟩ := map_get hr
      have hm2 := hl2 r (List.mem_of_getElem? hr2)
      walk_at "zgo"
      refine c_law_thing_shown hm2.2 hm2.1 ?_
      refine ⟨by simp; omega, rfl, ?_⟩
      rw [List.take_succ, hr2, List.map_append, List.map_append]
      rfl
    rw [List.length_map] at hk
    rw [List.take_of_length_le hk]
    refine i_newF ?_
    walk_at "zgo"
    have hsum := sum_len (m := 2501) (ys := hs.map thT) fun y hy => by
      obtain ⟨r, hr, rfl⟩ := List.mem_map.mp hy
      exact thT_len (hl2 r hr).2 (hl2 r hr).1
    rw [List.length_map] at hsum
    refine i_join (.lst (.lst _)) (by rw [List.length_map, l4]; omega) ?_
    have fin : hup h3 a (.lst ((((p.take i).map hsT).map Val.str) ++ [.str (hsT hs)])) = hup h a (.lst (((p.take (i + 1)).map hsT).map Val.str)) := by
      rw [← hH, hup_hup, List.take_succ, hhs, List.map_append, List.map_append]
      rfl
    have len : (((p.take i).map hsT).map Val.str).length < 16000000 := by simp; omega
    walk_at "zgo"
    by_cases c : hs = []
    · subst c
      refine i_newF (i_eqNil0 (.lst .nil) ?_)
      walk_at "zgo"
      refine i_append ea len ?_
      exact ⟨fin, _, _, _, rfl⟩
    · obtain ⟨w0, wr, hw⟩ : ∃ w0 wr, hs = w0 :: wr := by
        cases hs with
        | nil => exact absurd rfl c
        | cons w0 wr => exact ⟨w0, wr, rfl⟩
      have lay := house_lay hs
      have dv : Dv h3 (.lst (hs.map Thing.v)) (houseD hs) := houseV_dv hs
      rw [show houseD hs = .list (w0.d :: wr.map Thing.d) by rw [hw]; rfl] at lay dv
      refine i_newF (i_eqNil dv lay (by decide) ?_)
      walk_at "zgo"
      refine i_append ea len ?_
      refine ⟨?_, _, _, _, rfl⟩
      rw [← fin]
      unfold hsT
      rw [if_neg c]
/-! ### shorter -/
def shortT : Thing → Thing
  | .box w => .box (w % 10)
  | .shelf rs => .shelf (rs.take 2)
  | th => th
def shortV (th : Thing) : Val := (shortT th).v
theorem shortT_ok {ns : List Nat} {th : Thing} (h : th.Ok ns) : (shortT th).Ok ns := by
  cases th with
  | box w => exact ⟨by show -(10 ^ 60) < w % 10; omega, by show w % 10 < 10 ^ 60; omega⟩
  | shelf rs => exact ⟨by have := h.1; have := (List.take_sublist 2 rs).length_le; omega, fun r hr => h.2 r (List.mem_of_mem_take hr)⟩
  | _ => exact h
theorem shorter_ok {ws : Rooms} (o : WorldOk ws) : WorldOk (ws.map fun hs => hs.map shortT) := by
  have e : (ws.map fun hs => hs.map shortT).map List.length = ws.map List.length := by rw [List.map_map]; exact List.map_congr_left fun hs _ => List.length_map _
  refine ⟨by simpa using o.pos, by simpa using o.most, fun hs hh => ?_, fun hs hh th ht => ?_⟩
  · obtain ⟨us, hu, rfl⟩ := List.mem_map.mp hh
    rw [List.length_map]
    exact o.house us hu
  · obtain ⟨us, hu, rfl⟩ := List.mem_map.mp hh
    obtain ⟨u, hu2, rfl⟩ := List.mem_map.mp ht
    rw [e]
    exact shortT_ok (o.ok us hu u hu2)
theorem in_sm {ns : List Nat} {r : RefD} (h : In ns r) (hn : ns.length ≤ 8) (h12 : ∀ k ∈ ns, k ≤ 12) : r.Sm := by
  cases r with
  | made => exact (show False from h).elim
  | thing a b =>
    obtain ⟨k, a0, e, b0, b1⟩ := h
    have := (List.getElem?_eq_some_iff.mp e).1
    have := h12 k (List.mem_of_getElem? e)
    exact ⟨a0, by omega, b0, by omega⟩
theorem WorldOk.smT {ws : Rooms} (o : WorldOk ws) : SmT ws := by
  have hn : (ws.map List.length).length ≤ 8 := by rw [List.length_map]; exact o.most
  have h12 : ∀ k ∈ ws.map List.length, k ≤ 12 := fun k hk => by
    obtain ⟨hs, hh, rfl⟩ := List.mem_map.mp hk
    exact o.house hs hh
  refine ⟨by have := o.most; omega, fun hs hh => by have := o.house hs hh; omega, fun hs hh th ht => ?_⟩
  have ok := o.ok hs hh th ht
  refine ⟨by have := refs_ok ok; omega, ?_⟩
  cases th with
  | box w => exact ok
  | shelf rs => exact fun r hr => in_sm (ok.2 r hr) hn h12
  | relay q => exact fun r hr => by simp [Thing.refs] at hr; subst hr; exact in_sm ok hn h12
  | maker => exact fun r hr => by simp [Thing.refs] at hr
  | stone => exact fun r hr => by simp [Thing.refs] at hr
theorem rd_law_shorter {K : Fr} {p : Rooms} {vs h Q} {X : XQ} (gd : Good K Q) (q : fs_law_shorter.pre p vs h) (hp : ∀ v h', fs_law_shorter.post p h v h' → Q v h') :
    r_law_shorter (fun _ h' => Q .non h') Q (fun _ _ => False) (fun _ _ => False) (fun C v _ h' => X C v h') (startV ["houses", "found", "things", "some", "thing"] vs) h := by
  obtain ⟨rfl, s⟩ := q
  have hq : ∀ us, WorldOk us → Q (roomsV us) h := fun us o => hp _ _ ⟨us, rfl, o, rfl⟩
  clear hp
  show r_law_shorter _ _ _ _ _ [some (.lst (p.map houseV)), none, none, none, none] h
  unfold r_law_shorter
  have sm := s.smT
  have hl := s.most
  walk_at "zgo"
  refine c_law_shown sm ?_
  have lw : (wsT p).length ≤ 1000881 := by rw [len_tl, tl_wsT]; exact wsL_len sm
  walk_at "zgo"
  refine i_lenS (by omega) ?_
  by_cases c : ((wsT p).length : Int) ≤ 2000
  · walk_at "zgo"
    exact hq p s
  walk_at "zgo"
  refine i_newO fun a ha => ?_
  walk_at "zgo"
  refine for_inv (fun i ρ h' => ∃ (bs : List Addr) (x y z : Option Val), ρ = [some (.lst (p.map houseV)), some (.ref a), x, y, z] ∧ Nest h' a bs (thsV ((p.take i).map fun hs => hs.map shortT)) ∧ (∀ b, b ∉ a :: bs → h' b = h b) ∧ ∀ b ∈ a :: bs, h b = none)
    ⟨[], none, none, none, rfl, ⟨hup_same, rfl, fun i b xs e => by simp at e, by simp⟩, fun b hb => hup_ne (by simpa using hb), fun b hb => by simp at hb; subst hb; exact ha⟩ ?_
  rintro i ρ h' ⟨bs, x, y, z, rfl, N, k1, k2⟩
  refine ⟨trivial, fun hi => ?_, fun v hv => ?_⟩
  · rw [List.length_map] at hi
    rw [List.take_of_length_le hi] at N
    walk_at "zgo"
    refine gd.nest N ?_
    have e : hdelL (a :: bs) h' = h := by
      funext b
      by_cases hb : b ∈ a :: bs
      · rw [hdelL_in hb, k2 b hb]
      · rw [hdelL_out hb, k1 b hb]
    rw [e]
    have e2 : (thsV (p.map fun hs => hs.map shortT)).map Val.lst = (p.map fun hs => hs.map shortT).map houseV := by simp [thsV, thV, houseV]
    rw [e2]
    exact hq _ (shorter_ok s)
  · obtain ⟨hs, hhs, rfl⟩ := map_get hv
    have hm := List.mem_of_getElem? hhs
    have hl1 := s.house hs hm
    have ntop := N.top
    unfold houseV
    walk_at "zgo"
    refine i_newO fun b hb => ?_
    have hbn := N.fresh hb
    have hba : a ≠ b := fun z => hbn (by simp [z])
    walk_at "zgo"
    refine for_inv (fun j ρ h2 => h2 = hup h' b (.lst ((hs.take j).map shortV)) ∧ ∃ z : Option Val, ρ = [some (.lst (p.map houseV)), some (.ref a), some (.lst (hs.map Thing.v)), some (.ref b), z]) ⟨by simp, _, rfl⟩ ?_
    rintro j ρ h2 ⟨rfl, z, rfl⟩
    refine ⟨trivial, fun hj => ?_, fun v hv2 => ?_⟩
    · rw [List.length_map] at hj
      rw [List.take_of_length_le hj]
      walk_at "zgo"
      refine i_append (by rw [hup_ne hba]; exact ntop) (by rw [List.length_map, N.len]; have := (List.take_sublist i p).length_le; simp; omega) ?_
      have N2 := N.app (xs := hs.map shortV) hb
      refine ⟨bs ++ [b], _, _, _, rfl, ?_, fun c hc => ?_, fun c hc => ?_⟩
      · have e : thV (hs.map shortT) = hs.map shortV := by simp only [thV, List.map_map]; rfl
        rw [List.take_succ, hhs, List.map_append]
        show Nest _ a _ (List.map thV (List.map (fun hs => hs.map shortT) (p.take i) ++ [hs.map shortT]))
        rw [List.map_append]
        show Nest _ a _ (_ ++ [thV (hs.map shortT)])
        rw [e]
        exact N2
      · have c1 : c ≠ a := fun z => hc (by simp [z])
        have c2 : c ≠ b := fun z => hc (by simp [z])
        rw [hup_ne c1, hup_ne c2]
        exact k1 c fun z => hc (by simp at z ⊢; rcases z with z | z; exact .inl z; exact .inr (.inl z))
      · by_cases hc2 : c ∈ a :: bs
        · exact k2 c hc2
        · have e : c = b := by simp at hc hc2; rcases hc with hc | hc | hc; exact absurd hc hc2.1; exact absurd hc hc2.2; exact hc
          rw [e, ← k1 b hbn]
          exact hb
    · obtain ⟨th, hth, rfl⟩ := map_get hv2
      have fin : hup (hup h' b (.lst ((hs.take j).map shortV))) b (.lst (((hs.take j).map shortV) ++ [(shortT th).v])) = hup h' b (.lst ((hs.take (j + 1)).map shortV)) := by
        rw [hup_hup, List.take_succ, hth, List.map_append]
        rfl
      have len : ((hs.take j).map shortV).length < 16000000 := by have := (List.take_sublist j hs).length_le; simp; omega
      cases th with
      | box w =>
        unfold Thing.v
        walk_at "zgo"
        refine ⟨w, 10, rfl, rfl, (by decide : (0 : Int) < 10), ?_⟩
        walk_at "zgo"
        refine i_append hup_same len ?_
        exact ⟨fin, _, rfl⟩
      | shelf rs =>
        unfold Thing.v
        walk_at "zgo"
        refine i_slT ?_
        walk_at "zgo"
        refine i_append hup_same len ?_
        refine ⟨?_, _, rfl⟩
        rw [← fin]
        have e : cut (rs.map RefD.v) none (some 2) = (rs.take 2).map RefD.v := by
          unfold cut
          have e1 : HT.sIx (rs.map RefD.v).length (rs.map RefD.v).length (some 2) = min 2 rs.length := by rw [List.length_map]; exact HT.sIx_nat _ _ 2
          have e2 : HT.sIx (rs.map RefD.v).length 0 none = 0 := rfl
          rw [e1, e2, List.drop_zero, Nat.sub_zero, ← List.map_take]
          congr 1
          by_cases q : 2 ≤ rs.length
          · rw [Nat.min_eq_left q]
          · rw [List.take_of_length_le (by omega), List.take_of_length_le (by omega)]
        rw [e]
        rfl
      | relay r =>
        unfold Thing.v
        walk_at "zgo"
        refine i_append hup_same len ?_
        exact ⟨fin, _, rfl⟩
      | maker =>
        unfold Thing.v
        walk_at "zgo"
        refine i_append hup_same len ?_
        exact ⟨fin, _, rfl⟩
      | stone =>
        unfold Thing.v
        walk_at "zgo"
        refine i_append hup_same len ?_
        exact ⟨fin, _, rfl⟩
/-! LK4 -/


def fs_law_told_v2 (cl : Str → Addr) : FS := fs_law_told_v1 cl
def r_law_told_v2 (cl : Str → Addr) : WS :=
  wSeq (wIf (wTv (wOp wNeS (wCB (cLenO (cl "World") (fs_World___len__ cl)) (wCons (wVar 0) (wNil))) (wCB cLen (wCons (wVar 1) (wNil))))) (wRet (wC (.bl false))) (wNext))
  (wSeq (wFor (wiR1 (wCB cLen (wCons (wVar 1) (wNil)))) (wgName 2)
  (wIf (wNot (wTv (wCall (fs_law_alike 5) [] (wCons (wMeth (cl "World") "house" (fs_World_house cl) [] (wVar 0) (wCons (wVar 2) (wNil))) (wCons (wOp wIx (wVar 1) (wVar 2)) (wNil)))))) (wRet (wC (.bl false))) (wNext)))
  (wRet (wC (.bl true))))

def r_law_k04 (cl : Str → Addr) : WS :=
  wSeq (wAsg (wCall fs_law_tray [] (wCons (wVar 0) (wNil))) (wgName 1))
  (wSeq (wFor (wiR1 (wOp wAdd (wC (.int 1)) (wCB cLen (wCons (wSl wSlL (wVar 0) (wNoPart) (wPart (wC (.int 8)))) (wNil))))) (wgName 2)
  (wSeq (wAsg (wCall fs_law_world_v1 [] (wCons (wVar 1) (wNil))) (wgName 3))
  (wSeq (wAsg (wMake (cl "World") (fs_World___init__ cl) [] (wCons (wLc (wiL (wVar 3)) (tg1 4) wYes (wCB cList (wCons (wVar 4) (wNil))) [4]) (wNil))) (wgName 5))
  (wSeq (wIf (wOr (wNot (wTv (wCall (fs_law_alike 5) [] (wCons (wCall (fs_show_world cl) [] (wCons (wVar 5) (wNil))) (wCons (wCall fs_law_shown [] (wCons (wVar 3) (wNil))) (wNil)))))) (wNot (wTv (wCall (fs_law_alike 5) [] (wCons (wCB (cStrO (cl "World") (fs_World___str__ cl)) (wCons (wVar 5) (wNil))) (wCons (wCall fs_law_shown [] (wCons (wVar 3) (wNil))) (wNil))))))) (wRet (wC (.bl false))) (wNext))
  (wSeq (wAsg (wCall fs_law_shorter [] (wCons (wVar 3) (wNil))) (wgName 3))
  (wSeq (wAsg (wCall fs_law_shown [] (wCons (wVar 3) (wNil))) (wgName 6))
  (wSeq (wAsg (wMake (cl "World") (fs_World___init__ cl) [] (wCons (wLc (wiL (wVar 3)) (tg1 4) wYes (wCB cList (wCons (wVar 4) (wNil))) [4]) (wNil))) (wgName 7))
  (wSeq (wIf (wOr (wNot (wTv (wCall (fs_law_alike 5) [] (wCons (wCall (fs_show_world cl) [] (wCons (wVar 7) (wNil))) (wCons (wVar 6) (wNil)))))) (wNot (wTv (wCall (fs_law_alike 5) [] (wCons (wCB (cStrO (cl "World") (fs_World___str__ cl)) (wCons (wVar 7) (wNil))) (wCons (wVar 6) (wNil))))))) (wRet (wC (.bl false))) (wNext))
  (wSeq (wIf (wNot (wTv (wCall (fs_law_alike 5) [] (wCons (wCallK (fs_show_world cl) 0 1 [(.inr 0)] wNil (wCons (wVar 7) (wNil))) (wCons (wVar 6) (wNil)))))) (wRet (wC (.bl false))) (wNext))
  (wSeq (wAsg (wCallK (fs_read_world cl) 0 1 [(.inr 0)] wNil (wCons (wVar 6) (wNil))) (wgName 8))
  (wIf (wOr (wNot (wTv (wCall (fs_law_told_v2 cl) [] (wCons (wVar 8) (wCons (wVar 3) (wNil)))))) (wOr (wNot (wTv (wCall (fs_law_alike 5) [] (wCons (wOp (wEqO (cl "World") (fs_World___eq__ cl)) (wVar 8) (wVar 7)) (wCons (wC (.bl true)) (wNil)))))) (wNot (wTv (wCall (fs_law_told_v2 cl) [] (wCons (wVar 7) (wCons (wVar 3) (wNil)))))))) (wRet (wC (.bl false))) (wNext))))))))))))
  (wRet (wC (.bl true))))

theorem rd_law_told_v2 {K : Fr} {cl : Str → Addr} {p : Rooms × Val} {vs h Q} {X : XQ} (gd : Good K Q) (q : (fs_law_told_v2 cl).pre p vs h) (hp : ∀ v h', (fs_law_told_v2 cl).post p h v h' → Q v h') :
    r_law_told_v2 cl (fun _ h' => Q .non h') Q (fun _ _ => False) (fun _ _ => False) (fun C v _ h' => X C v h') (startV ["here", "houses", "k"] vs) h :=
  rd_law_told_v1 gd q hp
theorem HsL.rooms {h : Hh} (ws : Rooms) : HsL h (roomsV ws) ws := ⟨_, .lst _, paired_of (List.length_map _) fun i x hs e1 e2 => by
  rw [List.getElem?_map, e2] at e1
  cases e1
  exact .lst _⟩
theorem WorldOk.pures {ws : Rooms} (w : WorldOk ws) : ∀ hs ∈ ws, PureV 4 (houseV hs) := fun _ h => w.pure h
theorem rd_law_k04 {cl : Str → Addr} {vs h Q} (q : preL vs h) (hp : ∀ h', Q (.bl true) h') :
    r_law_k04 cl (fun _ h' => Q .non h') Q (fun _ _ => False) (fun _ _ => False) (fun _ _ _ _ => False) (startV ["script", "tray", "k", "houses", "things", "great", "due", "here", "found"] vs) h := by
  obtain ⟨ns, rfl, hl, rfl⟩ := q
  show r_law_k04 _ _ _ _ _ _ [some (.scr (ns.map Val.int)), none, none, none, none, none, none, none, none] _
  unfold r_law_k04
  walk_at "zgo"
  refine c_law_tray hl fun t g h0 _ _ T0 kp0 => ?_
  walk_at "zgo"
  refine ⟨_, .scr _, i_newF ?_⟩
  have hcut : (cut (List.map Val.int ns) none (some 8)).length ≤ 8 := by
    unfold cut
    rw [List.length_take]
    have : HT.sIx (List.map Val.int ns).length (List.map Val.int ns).length (some 8) ≤ 8 := by
      simp [HT.sIx]; omega
    omega
  revert hcut
  generalize cut (List.map Val.int ns) none (some 8) = sc8
  intro hcut
  walk_at "zgo"
  refine for_inv (fun i ρ h' => (∃ a b c d e f g1 : Option Val, ρ = [some (.scr (ns.map Val.int)), some (.ref t), a, b, c, d, e, f, g1]) ∧ Tray h' t g (0 + 4000 * i) ∧ i ≤ 10) ⟨⟨_, _, _, _, _, _, _, rfl⟩, T0.more (by omega), by omega⟩ ?_
  rintro i ρ h1 ⟨⟨v1, v2, v3, v4, v5, v6, v7, rfl⟩, T1, hi⟩
  refine ⟨trivial, fun _ => ?_, fun z hz => ?_⟩
  · walk_at "zgo"
    exact hp _
  obtain ⟨hi', rfl⟩ := rng_get hz
  have hi2 : i < 10 := by omega
  walk_at "zgo"
  refine c_law_world_v1 T1 (by omega) fun ws h2 ok T2 kp2 => ?_
  have sm := ok.smT
  have sml := ok.small
  have hml := ok.most
  walk_at "zgo"
  refine lc_inv (fun k acc h5 => h5 = h2 ∧ acc = (ws.take k).map houseV) ⟨rfl, by simp⟩ ?_
  rintro k acc h5 ⟨rfl, rfl⟩
  refine ⟨trivial, fun hk => ?_, fun z hz3 => ?_⟩
  rotate_left
  · obtain ⟨hs, hhs, rfl⟩ := map_get hz3
    unfold houseV
    walk_at "zgo"
    refine i_newF ?_
    refine ⟨by simp; omega, rfl, ?_⟩
    rw [List.take_succ, hhs, List.map_append]
    rfl
  rw [List.length_map] at hk
  rw [List.take_of_length_le hk]
  clear hk
  refine i_newF ?_
  walk_at "zgo"
  refine c_World_mk (HsAt.frozen ws) sml ok.good ?_
  walk_at "zgo"
  refine c_show_world sm ?_
  walk_at "zgo"
  refine c_law_shown sm ?_
  walk_at "zgo"
  refine c_law_alike (.str _ _) ?_
  walk_at "zgo"
  refine ⟨_, _, rfl, .obj _ _, ?_⟩
  refine c_World_str sm ⟨_, rfl, ?_⟩
  walk_at "zgo"
  refine c_law_shown sm ?_
  walk_at "zgo"
  refine c_law_alike (.str _ _) ?_
  walk_at "zgo"
  refine c_law_shorter ok fun us ok => ?_
  have sm := ok.smT
  have sml := ok.small
  have hml := ok.most
  walk_at "zgo"
  refine c_law_shown sm ?_
  walk_at "zgo"
  generalize hH : h5 = h2 at *
  refine lc_inv (fun k acc h5 => h5 = h2 ∧ acc = (us.take k).map houseV) ⟨rfl, by simp⟩ ?_
  rintro k acc h5 ⟨rfl, rfl⟩
  refine ⟨trivial, fun hk => ?_, fun z hz3 => ?_⟩
  rotate_left
  · obtain ⟨hs, hhs, rfl⟩ := map_get hz3
    unfold houseV
    walk_at "zgo"
    refine i_newF ?_
    refine ⟨by simp; omega, rfl, ?_⟩
    rw [List.take_succ, hhs, List.map_append]
    rfl
  rw [List.length_map] at hk
  rw [List.take_of_length_le hk]
  clear hk
  refine i_newF ?_
  walk_at "zgo"
  refine c_World_mk (HsAt.frozen us) sml ok.good ?_
  walk_at "zgo"
  refine c_show_world sm ?_
  walk_at "zgo"
  refine c_law_alike (.str _ _) ?_
  walk_at "zgo"
  refine ⟨_, _, rfl, .obj _ _, ?_⟩
  refine c_World_str sm ⟨_, rfl, ?_⟩
  walk_at "zgo"
  refine c_law_alike (.str _ _) ?_
  walk_at "zgo"
  refine c_show_world sm ?_
  walk_at "zgo"
  refine c_law_alike (.str _ _) ?_
  walk_at "zgo"
  refine c_read_world sm ok.good ?_
  walk_at "zgo"
  refine c_law_told_v1 (HsL.rooms us) sml ok.pures ?_
  walk_at "zgo"
  refine ⟨_, _, .obj _ _, .obj _ _, c_World_eq ⟨_, rfl, ?_⟩⟩
  rw [decide_eq_true rfl]
  walk_at "zgo"
  refine c_law_alike (.bl _ _) ?_
  walk_at "zgo"
  refine c_law_told_v1 (HsL.rooms us) sml ok.pures ?_
  walk_at "zgo"
  exact ⟨⟨_, _, _, _, _, _, _, rfl⟩, T2.more (by omega), by omega⟩
/-! ZL -/
/-! text * int -/
theorem fold_size (a : Array Nat) : ∀ (n : Nat) (b : Array Nat), ((List.replicate n a).foldl (· ++ ·) b).size = b.size + n * a.size
  | 0, b => by simp
  | n + 1, b => by
    rw [List.replicate_succ, List.foldl_cons, fold_size a n, Array.size_append, Nat.succ_mul]
    omega
theorem fold_mem (a : Array Nat) : ∀ (n : Nat) (b : Array Nat), (∀ c ∈ b.toList, c ∈ a.toList) → ∀ c ∈ ((List.replicate n a).foldl (· ++ ·) b).toList, c ∈ a.toList
  | 0, b, h, c, hc => h c (by simpa using hc)
  | n + 1, b, h, c, hc => by
    rw [List.replicate_succ, List.foldl_cons] at hc
    refine fold_mem a n (b ++ a) (fun x hx => ?_) c hc
    rw [Array.toList_append] at hx
    rcases List.mem_append.mp hx with hx | hx
    · exact h x hx
    · exact hx
def rMulS : R2 := fun x y H Q => ∃ (a : Str) (k : Int), x = V.str a ∧ y = V.int k ∧ 2 ≤ k ∧ k ≤ 1000 ∧ 0 < a.length ∧ a.length ≤ 1000 ∧ ∀ z : Str, z.length ≤ a.length * k.toNat → (∀ c ∈ z.cps.toList, c ∈ a.cps.toList) → Q (V.str z) H
theorem op_mulS {X : Cx} : OpR X (binaryOp .Mult) rMulS := by
  intro pins s σ H x y v u Q I rx ry h
  obtain ⟨a, k, rfl, rfl, h1, h2, h3, h4, q⟩ := h
  obtain ⟨t, rfl⟩ := rx
  obtain ⟨t', rfl⟩ := ry
  have hs := sizeLine_eq
  have hm : a.length * k.toNat ≤ 1000 * 1000 := Nat.mul_le_mul h4 (by omega)
  have hz : (⟨(List.replicate k.toNat a.cps).foldl (· ++ ·) #[]⟩ : Str).length = a.length * k.toNat := by
    show ((List.replicate k.toNat a.cps).foldl (· ++ ·) #[]).size = _
    rw [fold_size]
    show 0 + k.toNat * a.length = _
    rw [Nat.mul_comm]; omega
  refine PySem.P.mul_str ?_ (fun _ _ => ?_) (fun _ _ => ?_) ?_
  · rw [decide_eq_false (by omega), decide_eq_false (by omega)]; rfl
  · have : (1000 : Int) ≤ (2 ^ 63 - 1 : Int) / k := (Int.le_ediv_iff_mul_le (by omega)).mpr (by omega)
    omega
  · exact decide_eq_false (by omega)
  · rw [if_neg (by omega), if_neg (by simp; omega)]
    exact ⟨by rw [hz]; omega, .str _, H, I.tok _, ⟨_, rfl⟩, q _ (Nat.le_of_eq hz) (fun c hc => fold_mem a.cps k.toNat #[] (by simp) c hc)⟩
def wMulS : W2 := fun x y h Q => ∃ (a : Str) (k : Int), x = .str a ∧ y = .int k ∧ 2 ≤ k ∧ k ≤ 1000 ∧ 0 < a.length ∧ a.length ≤ 1000 ∧ ∀ z : Str, z.length ≤ a.length * k.toNat → (∀ c ∈ z.cps.toList, c ∈ a.cps.toList) → Q (.str z) h
theorem s_mulS {K : Fr} : Snd2 K wMulS rMulS := fun S F H h x y v w Q' Q r rx ry q lq => by
  obtain ⟨a, k, rfl, rfl, h1, h2, h3, h4, q⟩ := q
  exact ⟨a, k, rel_str.mp rx, rel_int.mp ry, h1, h2, h3, h4, fun z hz hc => lq _ _ S _ _ (q z hz hc) (Sub.refl S) r (rel_str.mpr rfl)⟩
theorem i_mulS {a : Str} {k : Int} {h : Hh} {Q : KQ} (h1 : 2 ≤ k) (h2 : k ≤ 1000) (h3 : 0 < a.length) (h4 : a.length ≤ 1000) (q : ∀ z : Str, z.length ≤ a.length * k.toNat → (∀ c ∈ z.cps.toList, c ∈ a.cps.toList) → Q (.str z) h) : wMulS (.str a) (.int k) h Q := ⟨a, k, rfl, rfl, h1, h2, h3, h4, q⟩
/-! ZM -/
/-! methods with keywords -/
/-- a method that keeps a promise, called with keywords -/
structure MtK (P : Program) (w : World) (K : Fr) (mg : Str → Option Value) (base : Heap) (C : Addr) (m : Str) (k : Nat) (ps : List Str) (n : Nat) (ks : List Str) (perm : List (Sum Nat Nat)) (fs : FS) : Prop where
  ex : ∃ (f : Addr) (fd : FuncData), FnOk P w K mg base (L2.CX P w) k f fd ps (lSp K fs) ∧ Meth K C m f ∧ KBn K fd ps (n + 1) ks (arr (.inl 0 :: perm.map fun | .inl i => .inl (i + 1) | .inr j => .inr j)) (arr (.inl 0 :: perm.map fun | .inl i => .inl (i + 1) | .inr j => .inr j))
section
variable {X : Cx} {W : WX} {pos : Pos} {k n : Nat} {x m : Str} {ps ks : List Str} {perm : List (Sum Nat Nat)} {fs : FS} {C : Addr} {p apos : Pos} {e o : Expr} {es : List Expr} {kws : List Keyword} {t tk0 : WA} {ta : WE}
def wMethK (C : Addr) (m : Str) (fs : FS) (n l : Nat) (perm : List (Sum Nat Nat)) (ta : WE) (t tk : WA) : WE := fun ρ h E Q => ta ρ h E fun x h1 => ∃ fl, Ins h1 x C fl ∧ fl.lookup m = none ∧ t ρ h1 E fun vs h2 => tk ρ h2 E fun zs h3 => vs.length = n ∧ zs.length = l ∧ fs.sp (x :: arr perm vs zs) h3 E Q
theorem zmethK0 {pl : Sem Bool} (tk : Takes X W) (c : Cls X.K C) (G : MtK X.prog X.w X.K X.mg X.base C m k ps 0 ks perm fs) (hr : Room k X.A) (ho : ZE X W o ta) (hkw : ZK X W kws tk0)
    (hall : (backToKw pos (keywordEach kws X.env)).all (·.1.isSome) = true := by rfl) (hks : (backToKw pos (keywordEach kws X.env)).filterMap (·.1) = ks := by rfl)
    (hpl : ((backTo pos (starEach [] X.env)).any (·.1) || (backToKw pos (keywordEach kws X.env)).any (·.1.isNone)) = false := by rfl)
    (ht : eval (.Call (.Attribute o m apos) [] kws pos) X.env = (do
      let ov ← eval o X.env
      standAt apos.atName
      let (f, first) ← holding [ov] (getMethod ov m pl)
      callWith pos f first (backTo pos (starEach [] X.env)) (backToKw pos (keywordEach kws X.env))) := by rfl) : ZE X W (.Call (.Attribute o m apos) [] kws pos) (wMethK C m fs 0 ks.length perm ta wNil tk0) := by
  obtain ⟨f, fd, F, hm, hb⟩ := G.ex
  refine ⟨⟨fun pins s σ H Q I h => ?_⟩⟩
  obtain ⟨S, Fr, ρ, h, E', Q', r, rl, q, lq, lx⟩ := h
  refine PySem.W.methodCall_KW (pl := pl) (thn (ho.pe.run pins s σ H (fun v H1 => ∃ S1 h1 x, Sub S S1 ∧ R X.K S1 Fr H1 h1 ∧ Rel X.K S1 x v ∧ _) I ⟨S, Fr, ρ, h, E', _, r, rl, q, fun y h1 S1 v H1 q1 s1 r1 x1 => ⟨S1, h1, y, s1, r1, x1, q1⟩, lx⟩) fun u s1 ⟨y, H1, I1, rx, S1, h1, x1, ss1, r1, rx1, fl, q1, q2, q3⟩ => ?_) ht
  obtain ⟨a, dx, gs, e1, e2, e3⟩ := q1.l r1 rx1
  subst e1
  obtain rfl : u = Value.ref a := rx
  refine getmeth_ok I1 e2 c hm (e3.lookup_none q2) ?_
  refine PySem.W.callWith_KW0 (first := [.ref a]) (h₀ := X.base) I.ok.mod.kin hm.kp hall ?_ hpl
  refine thn (hkw.pk.run pos pins _ σ H1 (fun zs H2 => zs.length = ks.length ∧ lSp X.K fs (.ref a :: arr perm [] zs) H2 Q (L2.WE W σ)) I1 ⟨S1, Fr, ρ, h1, E', _, r1, rl.mono ss1, q3, fun zs h2 S2 ws H2 q4 s2 r2 x2 => ⟨x2.length.symm.trans q4.2.1, lsp_of r2 (rels_cons.mpr ⟨_, _, rfl, Rel.mono s2 _ _ rx1, arr_rels (rels_nil.mpr rfl) x2⟩) q4.2.2 ((lq.mono ss1).mono s2) ((lx.mono ss1).mono s2)⟩, lx.mono ss1⟩) fun ws s2 ⟨zs, H2, I2, rz, l2, q4⟩ => ⟨I2.kIn, ?_⟩
  rw [hks]
  refine run_fnKS (us := [.ref a]) (vs := [.ref a]) (E := L2.WE W) F hr hb (passAt tk σ) I2 (.cons rfl .nil) rz rfl l2 ?_
  rw [show arr (.inl 0 :: perm.map fun | .inl i => .inl (i + 1) | .inr j => .inr j) [V.ref a] zs = V.ref a :: arr perm [] zs from congrArg (V.ref a :: ·) arr_up0]
  exact q4
theorem i_methK {C : Addr} {m : Str} {fs : FS} {n l : Nat} {perm : List (Sum Nat Nat)} {ta : WE} {t tk : WA} {ρ h E} {Q : KQ} (q : ta ρ h E fun x h1 => ∃ fl, Ins h1 x C fl ∧ fl.lookup m = none ∧ t ρ h1 E fun vs h2 => tk ρ h2 E fun zs h3 => vs.length = n ∧ zs.length = l ∧ fs.sp (x :: arr perm vs zs) h3 E Q) : wMethK C m fs n l perm ta t tk ρ h E Q := q
end
/-! ZN -/
/-! != of an own instance -/
section
variable {M : Model} {prog : Program} {w : World} {A : Around} {E : Value → Shared → Prop} {s : Shared} {K : PySem.W.Frag} {x y C f : Addr} {ox : Obj} {od : Option Obj}
theorem ifBound_ne {args : List Value} {Q : Option Value → Shared → Prop} (X : K.In s.heap) (I : PySem.W.InstAt s.heap x ox C od) (hs : PySem.W.findIn K (.ref C) "__ne__" = some (some (.builtin "object.__ne__")))
    (h : wpAny M A (call (.builtin "object.__ne__") (.ref x :: args)) (fun v => Q (some v)) E s) : wpAny M A (callSpecialIfBound? (.ref x) "__ne__" args) Q E s := by
  simp only [callSpecialIfBound?, bindSpecialIfBound?]
  refine wpAny_holding (wpAny_bind (wpAny_bind (wpAny_bind (I.type.here ((PySem.W.looks_findIn X hs).here ?_)))))
  refine wpAny_bind (wpAny_askSetting (wpAny_ite ?_))
  have fin : wpAny M A (call (.builtin "object.__ne__") ([.ref x] ++ args) >>= fun v => pure (some v)) Q E s := wpAny_bind (wpAny_mono h (fun v s' h' => wpAny_pure h') fun _ _ h' => h')
  split
  · exact wpAny_bind (wpAny_of_eq (F.cmp_object.ne.bind _) (wpAny_pure (by exact fin)))
  · exact wpAny_tryCatch (wpAny_bind (wpAny_of_eq (F.cmp_object.ne.bind _) (wpAny_pure (by exact fin))))
theorem entry_ne {Q : Fin → Shared → Prop} (hu : A.units < cLine) (X : K.In s.heap) (I : PySem.W.InstAt s.heap x ox C od) (hs : PySem.W.findIn K (.ref C) "__eq__" = some (some (.ref f))) (hf : PySem.W.isFn K (.ref f) = true)
    (h : wpAny (model prog w) A (call (.ref f) [.ref x, .ref y]) (fun v s' => ∃ b, v = .bool b ∧ Q (.done (.ret (.bool (!b)))) s') E s) :
    wpAny (model prog w) A (Builtin.«object.__ne__» ⟨[.ref x, .ref y], []⟩) Q E s := by
  unfold Builtin.«object.__ne__»
  repeat (first
    | with_reducible refine wpAny_cRoomFor hu ?_
    | (refine wpAny_bind (m := callSpecialIfBound? (.ref x) (Str.ofString "__eq__") [.ref y])
        (PySem.W.ifBound_K X I hs hf (wpAny_mono h (fun r s' hr => by
          obtain ⟨b, rfl, hq⟩ := hr
          repeat (first | exact hq | exact wpAny_pure hq | exact wpAny_truthy_bool hq | (refine wpAny_bind (m := truthy (.bool _)) (wpAny_truthy_bool ?_)) | wp_step)) fun _ _ e => e)))
    | wp_step)
theorem call_ne {Q : Value → Shared → Prop} (hu : A.in1.units < cLine) (X : K.In s.heap) (I : PySem.W.InstAt s.heap x ox C od) (hm : PySem.W.mroIn K C (.type "object") = some true)
    (hs : PySem.W.findIn K (.ref C) "__eq__" = some (some (.ref f))) (hf : PySem.W.isFn K (.ref f) = true)
    (h : wpAny (model prog w) A.in1 (call (.ref f) [.ref x, .ref y]) (fun v s' => ∃ b, v = .bool b ∧ Q (.bool (!b)) s') E s) :
    wpAny (model prog w) A (call (.builtin "object.__ne__") [.ref x, .ref y]) Q E s :=
  wpAny_call (codeAny_call_builtin F.cmp_object.ne.plain F.cmpEntry_ne (PySem.W.check_slot F.cmpKind_ne F.cmpSplit_ne (I.type.andThen (PySem.W.looks_mroIn X hm)) (F.cmpArgs_ne _ _) (entry_ne (A := A.in1) hu X I hs hf h)))
end
section
variable {X : Cx}
def rNeO (C : Addr) (sp : L2.Sp) : R2 := fun x y H Q => ∃ a dx fs b dy gs, x = .ref a ∧ y = .ref b ∧ H a = some (.ins C dx fs) ∧ H b = some (.ins C dy gs) ∧ sp [x, y] H (fun v H' => ∃ c : Bool, v = .bl c ∧ Q (.bl (!c)) H') (fun _ _ _ => False)
/-- what a class must say for != -/
theorem op_neO {k : Nat} {C f : Addr} {fd : FuncData} {ps : List Str} {sp : L2.Sp} (F : FnOk X.prog X.w X.K X.mg X.base (L2.CX X.prog X.w) k f fd ps sp) (hm : Meth X.K C "__eq__" f) (hne : neoB C X.K = true) (hb : Binds X.K fd ps []) (hr : Room (k + 2) X.A) : OpR X (compareOp .NotEq) (rNeO C sp) := by
  intro pins s σ H x y v u Q I rx ry h
  obtain ⟨a, dx, fs, b, dy, gs, rfl, rfl, ha, hb2, hsp⟩ := h
  cases rx
  cases ry
  obtain ⟨mA, J, _⟩ := ins_get I.hok ha
  obtain ⟨od, J, _⟩ := J.look
  obtain ⟨mB, J', _⟩ := ins_get I.hok hb2
  obtain ⟨od', J', _⟩ := J'.look
  obtain ⟨n1, n2⟩ := Bool.and_eq_true_iff.mp hne
  have n1 := of_decide_eq_true n1
  have n2 := of_decide_eq_true n2
  have hl := F.len _ _ _ _ hsp
  have r2 : Vals [V.ref a, V.ref b] [Value.ref a, Value.ref b] := .cons rfl (.cons rfl .nil)
  have hr1 : Room (k + 1) X.A := hr.mono (by omega)
  show wpAny _ _ (richCompare .NotEq (.ref a) (.ref b)) _ _ _
  have one : wpAny (model X.prog X.w) X.A (tryCompare (.ref a) "__ne__" (.ref b)) (fun r s' => ∃ v, r = some v ∧ EP X pins σ Q v s') X.xe s := by
    unfold tryCompare
    refine wpAny_bind (ifBound_ne I.kIn J n1 (call_ne hr1.in1.units0 I.kIn J n2 hm.at_ hm.fn ?_))
    refine wpAny_call (codeAny_mono (F.run X.A.in1 X.stack s H ⟨[.ref a, .ref b], []⟩ [.ref a, .ref b] [.ref a, .ref b] _ _ hr1.in1 I.env0.in1 (by
      have := hb s [.ref a, .ref b] I.kIn (by simpa using hl)
      simpa using this) r2 hsp) fun r s' hq => ?_)
    cases r with
    | error e => exact passL pins σ H s e s' I hq
    | ok fl =>
      cases fl with
      | ret w =>
        obtain ⟨z, H', I', rz, n, ez, q⟩ := I.after hq
        subst ez
        cases rz
        exact ⟨n, rfl, wpAny_pure ⟨_, rfl, .bl (!n), H', I', rfl, q⟩⟩
      | next => exact False.elim hq
      | brk => exact False.elim hq
      | cont => exact False.elim hq
  unfold richCompare
  simp only [oneThing_ref]
  refine wpAny_holding (wpAny_bind (wpAny_cRoomFor hr.units0 ?_))
  refine wpAny_bind (J.type.here (wpAny_bind (J'.type.here ?_)))
  rw [show (Value.ref C != Value.ref C) = false from by simp]
  simp only [Bool.false_eq_true, if_false]
  refine wpAny_bind (wpAny_pure ?_)
  simp only [Bool.false_eq_true, if_false]
  refine wpAny_bind (wpAny_mono one (fun r s' z => ?_) fun _ _ e => e)
  obtain ⟨v, rfl, hq⟩ := z
  exact wpAny_pure hq
def wNeO (C : Addr) (fs : FS) : W2 := fun x y h Q => ∃ fl gl, Ins h x C fl ∧ Ins h y C gl ∧ fs.sp [x, y] h (fun _ _ _ => False) (fun v h' => ∃ c : Bool, v = .bl c ∧ Q (.bl (!c)) h')
theorem s_neO {K : Fr} {C : Addr} {fs : FS} : Snd2 K (wNeO C fs) (rNeO C (lSp K fs)) := fun S F H h x y v w Q' Q r rx ry q lq => by
  obtain ⟨fl, gl, q1, q2, q⟩ := q
  obtain ⟨a, dx, gs, e1, e2, e3⟩ := q1.l r rx
  obtain ⟨b, dy, us, g1, g2, g3⟩ := q2.l r ry
  subst e1 g1
  refine ⟨a, dx, gs, b, dy, us, rfl, rfl, e2, g2, S, F, _, h, _, _, r, rels_cons.mpr ⟨_, _, rfl, rx, Rels.one ry⟩, q, fun v h' S' w H' q1 s1 r1 x2 => ?_, fun _ _ _ _ _ _ _ z => z.elim⟩
  obtain ⟨n, rfl, q1⟩ := q1
  exact ⟨n, rel_bl.mp x2, lq _ _ _ _ _ q1 s1 r1 (rel_bl.mpr rfl)⟩
theorem op_neOG {k : Nat} {C : Addr} {ps : List Str} {fs : FS} (G : Mt X.prog X.w X.K X.mg X.base C "__eq__" k ps [] fs) (hne : neoB C X.K = true) (hr : Room (k + 2) X.A) : OpR X (compareOp .NotEq) (rNeO C (lSp X.K fs)) := by
  obtain ⟨f, fd, dvs, ds, F, hmm, hd, hdv, hb⟩ := G.ex
  have e0 : dvs = [] := rels_nil.mp (hdv fun _ => none)
  subst e0
  cases hd
  exact op_neO F hmm hne hb hr
end
/-! ZO -/
/-! an own instance in a list of one -/
section
open AutoSeq1 (wpAny_loadPart')
open MeetsSeq MeetsSeq2 MeetsSeq3 SeqRoads2
variable {prog : Program} {w : World} {A : Around} {R : Result → Shared → Prop}
def OneL (s : Shared) (l : Addr) (y : Value) : Prop := ∃ (items : Array Value) (n : Nat), s.heap.get? l = some { cls := .type "list", data := .seq items n } ∧ items[0]? = some y ∧ items[1]? = none
theorem one_loop1 (l : Addr) (y x : Value) (s : Shared) (hl : OneL s l y) (h : R (.ok (.ret (.bool false))) s) :
    wpAny (model prog w) A.in1 (Builtin.«list.__contains__.loop» ⟨[.ref l, x, rawInt 1], []⟩) (GQ.FinOf prog w A R) (fun e s' => R (.error e) s') s := by
  obtain ⟨items, n, hl, h0, h1⟩ := hl
  obtain ⟨hp, g, d, tk, os⟩ := s
  wp_walk using wpAny_loadPart' hl
  have hi : items[((1 : Int)).toNat]? = none := h1
  rw [hi]
  wp_walk
  exact h
theorem one_loop0 (l : Addr) (y x : Value) (s : Shared) (hl : OneL s l y)
    (h : wpAny (model prog w) A.in1 (eqBool y x) (fun b s' => OneL s' l y ∧ R (.ok (.ret (.bool b))) s') (fun e s' => R (.error e) s') s) :
    wpAny (model prog w) A.in1 (Builtin.«list.__contains__.loop» ⟨[.ref l, x, rawInt 0], []⟩) (GQ.FinOf prog w A R) (fun e s' => R (.error e) s') s := by
  obtain ⟨items, n, hl, h0, h1⟩ := hl
  obtain ⟨hp, g, d, tk, os⟩ := s
  wp_walk using wpAny_loadPart' hl
  have hi : items[((0 : Int)).toNat]? = some y := h0
  rw [hi]
  refine wpAny_bind (wpAny_mono h (fun b s' hb => ?_) fun _ _ e => e)
  obtain ⟨hl', hb⟩ := hb
  cases b with
  | true =>
    obtain ⟨hp, g, d, tk, os⟩ := s'
    wp_walk
    exact hb
  | false =>
    obtain ⟨hp, g, d, tk, os⟩ := s'
    wp_walk
    exact ⟨plainId_quiet plain_contains_loop _, codeAny_builtin entry_contains_loop (by
      rw [Around.under_plainId plain_contains_loop _]
      exact one_loop1 l y x _ hl' hb)⟩
theorem one_contains (l : Addr) (y x : Value) (s : Shared) (hl : OneL s l y)
    (h : wpAny (model prog w) A.in1 (eqBool y x) (fun b s' => OneL s' l y ∧ R (.ok (.ret (.bool b))) s') (fun e s' => R (.error e) s') s) :
    wpAny (model prog w) A.in1 (Builtin.«list.__contains__» ⟨[.ref l, x], []⟩) (GQ.FinOf prog w A R) (fun e s' => R (.error e) s') s := by
  obtain ⟨items, n, hl2, h0, h1⟩ := id hl
  obtain ⟨hp, g, d, tk, os⟩ := s
  wp_walk using wpAny_loadPart' hl2
  exact ⟨plainId_quiet plain_contains_loop _, codeAny_builtin entry_contains_loop (by
    rw [Around.under_plainId plain_contains_loop _]
    exact one_loop0 l y x _ hl h)⟩
theorem one_in {E : Value → Shared → Prop} {Q : Value → Shared → Prop} {l : Addr} {y x : Value} {s : Shared} (hl : OneL s l y)
    (h : wpAny (model prog w) A.in1 (eqBool y x) (fun b s' => OneL s' l y ∧ Q (.bool b) s') E s) : wpAny (model prog w) A (compareOp .In x (.ref l)) Q E s := by
  obtain ⟨items, n, hl2, h0, h1⟩ := id hl
  have hT : s.TypeIs (.ref l) "list" := ⟨_, hl2, rfl⟩
  show wpAny _ A (do return .bool (← contains (.ref l) x)) Q E s
  refine wpAny_bind (wpAny_contains_slot hT F.slot_list_contains (GQ.call_here F.slot_list_contains hT F.entry_list_contains (F.args_list_contains_2 _ _) (one_contains l y x s hl (wpAny_mono h (fun b s' hb => ⟨hb.1, ?_⟩) fun _ _ e => e))))
  exact wpAny_truthy_bool (wpAny_pure hb.2)
end
section
variable {X : Cx}
theorem oneL_of {pins : List (Addr × Obj)} {σ : L2.St} {H : Hp} {s : Shared} {l b : Addr} (I : L2.Inv X pins σ H s) (hH : H l = some (.lst [V.ref b])) : OneL s l (.ref b) := by
  obtain ⟨z, its, n, r, hl, e⟩ := I.lstM hH
  cases r with
  | cons r1 r2 =>
    cases r2
    cases r1
    exact ⟨_, n, e, rfl, rfl⟩
theorem eqBool_same {M : Model} {A : Around} {E : Value → Shared → Prop} {Q : Bool → Shared → Prop} {s : Shared} {a : Addr} (h : Q true s) : wpAny M A (eqBool (.ref a) (.ref a)) Q E s := by
  unfold eqBool
  refine wpAny_holding ?_
  refine wpAny_ite_split (fun _ => ?_) (fun hab => absurd (by simp) hab)
  exact wpAny_bind (wpAny_rule (wpAny_pure h))
def rInO (C : Addr) (sp : L2.Sp) : R2 := fun x y H Q => ∃ l a dx fs b dy gs, x = V.ref a ∧ y = V.ref l ∧ H l = some (.lst [V.ref b]) ∧ H a = some (.ins C dx fs) ∧ H b = some (.ins C dy gs) ∧ (a = b → Q (V.bl true) H) ∧
  sp [.ref b, .ref a] H (fun v H' => ∃ c : Bool, v = .bl c ∧ H' l = some (.lst [V.ref b]) ∧ Q (.bl c) H') (fun _ _ _ => False)
theorem op_inO {k : Nat} {C f : Addr} {fd : FuncData} {ps : List Str} {sp : L2.Sp} (F : FnOk X.prog X.w X.K X.mg X.base (L2.CX X.prog X.w) k f fd ps sp) (hm : Meth X.K C "__eq__" f) (hb : Binds X.K fd ps []) (hr : Room (k + 2) X.A) : OpR X (compareOp .In) (rInO C sp) := by
  intro pins s σ H x y v u Q I rx ry h
  obtain ⟨l, a, dx, fs, b, dy, gs, rfl, rfl, hH, ha, hb2, hsame, hsp⟩ := h
  cases rx
  cases ry
  refine one_in (y := .ref b) (oneL_of I hH) ?_
  by_cases hab : b = a
  · subst hab
    exact eqBool_same ⟨oneL_of I hH, .bl true, H, I, rfl, hsame rfl⟩
  obtain ⟨mA, J, _⟩ := ins_get I.hok hb2
  obtain ⟨od, J, _⟩ := J.look
  obtain ⟨mB, J', _⟩ := ins_get I.hok ha
  obtain ⟨od', J', _⟩ := J'.look
  obtain ⟨m, hF⟩ := I.fr
  have hr1 : Room (k + 1) X.A := hr.mono (by omega)
  refine GQ.eqBool_refG hab ?_
  refine PySem.W.cmp_K (op := .Eq) (tb := .ref C) hr1.in1.units0 hF I.ok.mod.kin J J'.type (by unfold PySem.W.notFirst; simp) hm.at_ hm.fn ?_
  have hl := F.len _ _ _ _ hsp
  have r2 : Vals [V.ref b, V.ref a] [Value.ref b, Value.ref a] := .cons rfl (.cons rfl .nil)
  refine wpAny_call (codeAny_mono (F.run X.A.in1 X.stack s H ⟨[.ref b, .ref a], []⟩ [.ref b, .ref a] [.ref b, .ref a] _ _ hr1.in1 I.env0.in1 (by
    have := hb s [.ref b, .ref a] I.kIn (by simpa using hl)
    simpa using this) r2 hsp) fun r s' hq => ?_)
  cases r with
  | error e => exact passL pins σ H s e s' I hq
  | ok fl =>
    cases fl with
    | ret w =>
      obtain ⟨z, H', I', rz, n, ez, q1, q⟩ := I.after hq
      subst ez
      cases rz
      exact ⟨n, rfl, oneL_of I' q1, .bl n, H', I', rfl, q⟩
    | next => exact False.elim hq
    | brk => exact False.elim hq
    | cont => exact False.elim hq
end
mutual
/-- plain: numbers, texts, and tuples and lists of these -/
def plV : Val → Bool
  | .int _ => true
  | .str _ => true
  | .tup xs => plVs xs
  | .lst xs => plVs xs
  | _ => false
def plVs : List Val → Bool
  | [] => true
  | x :: xs => plV x && plVs xs
end
mutual
theorem rel_inj {K : Fr} {S : Hp} : ∀ (x y : Val) (w : V), plV x = true → plV y = true → Rel K S x w → Rel K S y w → x = y
  | .int i, y, w, h1, h2, r1, r2 => by
    rw [rel_int] at r1
    subst r1
    cases y with
    | int j => rw [rel_int] at r2; cases r2; rfl
    | str j => rw [rel_str] at r2; cases r2
    | tup xs => rw [rel_tup] at r2; obtain ⟨a, ws, e, _⟩ := r2; cases e
    | lst xs => rw [rel_lst] at r2; obtain ⟨a, ws, e, _⟩ := r2; cases e
    | _ => cases h2
  | .str i, y, w, h1, h2, r1, r2 => by
    rw [rel_str] at r1
    subst r1
    cases y with
    | int j => rw [rel_int] at r2; cases r2
    | str j => rw [rel_str] at r2; cases r2; rfl
    | tup xs => rw [rel_tup] at r2; obtain ⟨a, ws, e, _⟩ := r2; cases e
    | lst xs => rw [rel_lst] at r2; obtain ⟨a, ws, e, _⟩ := r2; cases e
    | _ => cases h2
  | .tup xs, y, w, h1, h2, r1, r2 => by
    rw [rel_tup] at r1
    obtain ⟨a, ws, rfl, e1, q1⟩ := r1
    cases y with
    | int j => rw [rel_int] at r2; cases r2
    | str j => rw [rel_str] at r2; cases r2
    | tup ys =>
      rw [rel_tup] at r2
      obtain ⟨b, us, e, e2, q2⟩ := r2
      cases e
      rw [e1] at e2
      cases e2
      rw [rels_inj xs ys ws (by simpa [plV] using h1) (by simpa [plV] using h2) q1 q2]
    | lst ys =>
      rw [rel_lst] at r2
      obtain ⟨b, us, e, e2, q2⟩ := r2
      cases e
      rw [e1] at e2
      cases e2
    | _ => cases h2
  | .lst xs, y, w, h1, h2, r1, r2 => by
    rw [rel_lst] at r1
    obtain ⟨a, ws, rfl, e1, q1⟩ := r1
    cases y with
    | int j => rw [rel_int] at r2; cases r2
    | str j => rw [rel_str] at r2; cases r2
    | lst ys =>
      rw [rel_lst] at r2
      obtain ⟨b, us, e, e2, q2⟩ := r2
      cases e
      rw [e1] at e2
      cases e2
      rw [rels_inj xs ys ws (by simpa [plV] using h1) (by simpa [plV] using h2) q1 q2]
    | tup ys =>
      rw [rel_tup] at r2
      obtain ⟨b, us, e, e2, q2⟩ := r2
      cases e
      rw [e1] at e2
      cases e2
    | _ => cases h2
  | .non, _, _, h, _, _, _ => by cases h
  | .bl _, _, _, h, _, _, _ => by cases h
  | .scr _, _, _, h, _, _, _ => by cases h
  | .obj _ _, _, _, h, _, _, _ => by cases h
  | .ref _, _, _, h, _, _, _ => by cases h
  | .ty _, _, _, h, _, _, _ => by cases h
  | .exc _ _ _, _, _, h, _, _, _ => by cases h
theorem rels_inj {K : Fr} {S : Hp} : ∀ (xs ys : List Val) (ws : List V), plVs xs = true → plVs ys = true → Rels K S xs ws → Rels K S ys ws → xs = ys
  | [], ys, ws, _, _, r1, r2 => by
    rw [rels_nil] at r1
    subst r1
    cases ys with
    | nil => rfl
    | cons y ys => rw [rels_cons] at r2; obtain ⟨_, _, e, _⟩ := r2; cases e
  | x :: xs, ys, ws, h1, h2, r1, r2 => by
    rw [rels_cons] at r1
    obtain ⟨w, us, rfl, q1, q2⟩ := r1
    cases ys with
    | nil => rw [rels_nil] at r2; cases r2
    | cons y ys =>
      rw [rels_cons] at r2
      obtain ⟨w2, us2, e, q3, q4⟩ := r2
      cases e
      simp only [plVs, Bool.and_eq_true] at h1 h2
      rw [rel_inj x y w h1.1 h2.1 q1 q3, rels_inj xs ys us h1.2 h2.2 q2 q4]
end
/-- o in [p]: instances of one field that is plain -/
def wInO (C : Addr) (fld : Str) (fs : FS) : W2 := fun x y h Q => ∃ u v, x = .obj C [(fld, u)] ∧ y = .lst [.obj C [(fld, v)]] ∧ plV u = true ∧ plV v = true ∧ (u = v → Q (.bl true) h) ∧
  fs.sp [.obj C [(fld, v)], .obj C [(fld, u)]] h (fun _ _ _ => False) (fun v h' => ∃ c : Bool, v = .bl c ∧ Q (.bl c) h')
theorem s_inO {K : Fr} {C : Addr} {fld : Str} {fs : FS} : Snd2 K (wInO C fld fs) (rInO C (lSp K fs)) := fun S F H h x y v w Q' Q r rx ry q lq => by
  obtain ⟨u1, u2, rfl, rfl, p1, p2, q1, q⟩ := q
  rw [rel_obj] at rx
  obtain ⟨a, dx, gs, rfl, e1, f1⟩ := rx
  have ry0 := ry
  rw [rel_lst] at ry
  obtain ⟨l, ws, rfl, e2, g2⟩ := ry
  obtain ⟨wb, rfl, rb⟩ := rels_1 g2
  have rb0 := rb
  rw [rel_obj] at rb
  obtain ⟨b, dy, us, rfl, e3, f3⟩ := rb
  have rx : Rel K S (.obj C [(fld, u1)]) (.ref a) := rel_obj.mpr ⟨a, dx, gs, rfl, e1, f1⟩
  refine ⟨l, a, dx, gs, b, dy, us, rfl, rfl, r.sub _ _ e2, r.sub _ _ e1, r.sub _ _ e3, fun hab => ?_, S, F, _, h, _, _, r, rels_cons.mpr ⟨_, _, rfl, rb0, Rels.one rx⟩, q, fun v h' S' w H' q1 s1 r1 x2 => ?_, fun _ _ _ _ _ _ _ z => z.elim⟩
  · subst hab
    rw [e1] at e3
    cases e3
    rw [relf_cons] at f1 f3
    obtain ⟨w1, t1, g1, k1, _⟩ := f1
    obtain ⟨w2, t2, g3, k2, _⟩ := f3
    rw [g1] at g3
    cases g3
    exact lq _ _ S _ _ (q1 (rel_inj u1 u2 w1 p1 p2 k1 k2)) (Sub.refl S) r (rel_bl.mpr rfl)
  · obtain ⟨n, rfl, q1⟩ := q1
    exact ⟨n, rel_bl.mp x2, r1.sub _ _ (s1 _ _ e2), lq _ _ _ _ _ q1 s1 r1 (rel_bl.mpr rfl)⟩
theorem op_inOG {X : Cx} {k : Nat} {C : Addr} {ps : List Str} {fs : FS} (G : Mt X.prog X.w X.K X.mg X.base C "__eq__" k ps [] fs) (hr : Room (k + 2) X.A) : OpR X (compareOp .In) (rInO C (lSp X.K fs)) := by
  obtain ⟨f, fd, dvs, ds, F, hmm, hd, hdv, hb⟩ := G.ex
  have e0 : dvs = [] := rels_nil.mp (hdv fun _ => none)
  subst e0
  cases hd
  exact op_inO F hmm hb hr
theorem i_iE {t : WE} {ρ : Ev} {h : Hh} {E : XQ} {G : List Val → (Hh → Prop) → Hh → Prop} (q : t ρ h E fun v h1 => Its h1 v fun xs chk h => G (enumV 0 xs) chk h) : wiE t ρ h E G := q
theorem i_iZ {t u : WE} {ρ : Ev} {h : Hh} {E : XQ} {G : List Val → (Hh → Prop) → Hh → Prop} (q : t ρ h E fun v h1 => u ρ h1 E fun w h2 => Its h2 v fun xs c1 _ => Its h2 w fun ys c2 _ => G (zipV xs ys) (fun h => c1 h ∧ c2 h) h2) : wiZ t u ρ h E G := q
theorem enum_get {xs : List Val} {i : Nat} {z : Val} (h : (enumV 0 xs)[i]? = some z) : ∃ x, xs[i]? = some x ∧ z = .tup [.int (i : Int), x] := by
  rw [enumV_get] at h
  obtain ⟨x, e, rfl⟩ := Option.map_eq_some_iff.mp h
  exact ⟨x, e, by rw [Nat.zero_add]⟩
/-! LQ1 -/
/-! the steps: one macro -/
local macro_rules | `(tactic| walk_at "hlk") => `(tactic| first | assumption | with_reducible exact hup_same | ((with_reducible refine' (hup_ne ?nn).trans ?tt); (case nn => first | assumption | (refine Ne.symm ?_; assumption)); (case tt => walk_at "hlk")))
local macro_rules | `(tactic| walk_at "zgo") => `(tactic| repeat (first
  | with_reducible refine i_seq ?_
  | with_reducible refine i_op ?_
  | ((with_reducible refine g_var ?_); first
    | with_reducible refine i_var0 ?_
    | with_reducible refine i_var1 ?_
    | with_reducible refine i_var2 ?_
    | with_reducible refine i_var3 ?_
    | with_reducible refine i_var4 ?_
    | with_reducible refine i_var5 ?_
    | with_reducible refine i_var6 ?_
    | with_reducible refine i_var7 ?_
    | with_reducible refine i_var8 ?_
    | with_reducible refine i_var9 ?_
    | with_reducible refine i_var10 ?_
    | with_reducible refine i_var11 ?_
    | with_reducible refine i_var12 ?_
    | with_reducible refine i_var13 ?_
    | with_reducible refine i_var14 ?_
    | with_reducible refine i_var15 ?_
    | with_reducible refine i_var16 ?_
    | with_reducible refine i_var17 ?_
    | with_reducible refine i_var18 ?_
    | with_reducible refine i_var19 ?_
    | with_reducible refine i_var20 ?_
    | with_reducible refine i_var21 ?_
    | with_reducible refine i_var22 ?_
    | with_reducible refine i_var23 ?_
    | with_reducible refine i_var24 ?_
    | with_reducible refine i_var25 ?_)
  | with_reducible refine i_c ?_
  | with_reducible refine i_cons ?_
  | with_reducible refine i_nil ?_
  | with_reducible refine i_asg ?_
  | ((with_reducible refine g_name ?_); first
    | with_reducible refine i_name0 ?_
    | with_reducible refine i_name1 ?_
    | with_reducible refine i_name2 ?_
    | with_reducible refine i_name3 ?_
    | with_reducible refine i_name4 ?_
    | with_reducible refine i_name5 ?_
    | with_reducible refine i_name6 ?_
    | with_reducible refine i_name7 ?_
    | with_reducible refine i_name8 ?_
    | with_reducible refine i_name9 ?_
    | with_reducible refine i_name10 ?_
    | with_reducible refine i_name11 ?_
    | with_reducible refine i_name12 ?_
    | with_reducible refine i_name13 ?_
    | with_reducible refine i_name14 ?_
    | with_reducible refine i_name15 ?_
    | with_reducible refine i_name16 ?_
    | with_reducible refine i_name17 ?_
    | with_reducible refine i_name18 ?_
    | with_reducible refine i_name19 ?_
    | with_reducible refine i_name20 ?_
    | with_reducible refine i_name21 ?_
    | with_reducible refine i_name22 ?_
    | with_reducible refine i_name23 ?_
    | with_reducible refine i_name24 ?_
    | with_reducible refine i_name25 ?_)
  | ((with_reducible refine g_tg1 ?_); first
    | with_reducible refine i_tg1_0 ?_
    | with_reducible refine i_tg1_1 ?_
    | with_reducible refine i_tg1_2 ?_
    | with_reducible refine i_tg1_3 ?_
    | with_reducible refine i_tg1_4 ?_
    | with_reducible refine i_tg1_5 ?_
    | with_reducible refine i_tg1_6 ?_
    | with_reducible refine i_tg1_7 ?_
    | with_reducible refine i_tg1_8 ?_
    | with_reducible refine i_tg1_9 ?_
    | with_reducible refine i_tg1_10 ?_
    | with_reducible refine i_tg1_11 ?_
    | with_reducible refine i_tg1_12 ?_
    | with_reducible refine i_tg1_13 ?_
    | with_reducible refine i_tg1_14 ?_
    | with_reducible refine i_tg1_15 ?_
    | with_reducible refine i_tg1_16 ?_
    | with_reducible refine i_tg1_17 ?_
    | with_reducible refine i_tg1_18 ?_
    | with_reducible refine i_tg1_19 ?_
    | with_reducible refine i_tg1_20 ?_
    | with_reducible refine i_tg1_21 ?_
    | with_reducible refine i_tg1_22 ?_
    | with_reducible refine i_tg1_23 ?_)
  | with_reducible refine i_yes ?_
  | with_reducible refine i_if ?_
  | with_reducible refine i_tv ?_
  | with_reducible refine i_bl ?_
  | with_reducible refine i_blV ?_
  | ((with_reducible refine g_if ?_); first
    | with_reducible refine iteT ?_
    | with_reducible refine iteF ?_
    | ((with_reducible refine' i_ifdt ?cc ?_); (case cc => first | decide | omega | assumption | decide +kernel))
    | ((with_reducible refine' i_ifdf ?cc ?_); (case cc => first | decide | omega | assumption | decide +kernel))
    | ((with_reducible refine' i_ifnt ?cc ?_); (case cc => first | decide | omega | assumption | decide +kernel))
    | ((with_reducible refine' i_ifnf ?cc ?_); (case cc => first | decide | omega | assumption | decide +kernel))
    | ((with_reducible refine' i_ift ?cc ?_); (case cc => first | assumption | rfl))
    | ((with_reducible refine' i_iff ?cc ?_); (case cc => first | assumption | rfl)))
  | with_reducible refine i_eqT ?_
  | with_reducible refine i_neT ?_
  | with_reducible refine i_eqI ?_
  | with_reducible refine i_neI ?_
  | with_reducible refine i_eqB ?_
  | with_reducible refine i_neB ?_
  | with_reducible refine i_lt ?_
  | with_reducible refine i_le ?_
  | with_reducible refine i_gt ?_
  | with_reducible refine i_ge ?_
  | with_reducible refine i_add ?_
  | with_reducible refine i_sub ?_
  | with_reducible refine i_and ?_
  | with_reducible refine i_or ?_
  | with_reducible refine i_not ?_
  | with_reducible refine i_andV ?_
  | with_reducible refine i_orV ?_
  | with_reducible refine i_notV ?_
  | with_reducible refine i_ifE ?_
  | with_reducible refine i_isN ?_
  | with_reducible refine i_notN ?_
  | with_reducible refine i_un ?_
  | with_reducible refine i_int1 ?_
  | with_reducible refine i_tup ?_
  | with_reducible refine i_lst ?_
  | ((with_reducible refine' i_small ?ss ?_); (case ss => first | decide | (simp only [List.length_cons, List.length_nil, List.length_map, List.length_append]; omega)))
  | with_reducible refine i_cb ?_
  | with_reducible refine i_call0 ?_
  | with_reducible refine i_call ?_
  | with_reducible refine i_meth0 ?_
  | with_reducible refine i_methK ?_
  | with_reducible refine i_make0 ?_
  | with_reducible refine i_fld ?_
  | ((with_reducible refine' i_fldO ?ll ?_); (case ll => repeat (first | exact lk_hd | exact lk_nil | (refine lk_tl (by decide +kernel) ?_))))
  | ((with_reducible refine' i_fldR ?ee ?ll ?_); (case ee => walk_at "hlk"); (case ll => repeat (first | exact lk_hd | exact lk_nil | (refine lk_tl (by decide +kernel) ?_))))
  | ((with_reducible refine' i_mO ?ll ?_); (case ll => repeat (first | exact lk_hd | exact lk_nil | (refine lk_tl (by decide +kernel) ?_))))
  | ((with_reducible refine' i_mR ?ee ?ll ?_); (case ee => walk_at "hlk"); (case ll => repeat (first | exact lk_hd | exact lk_nil | (refine lk_tl (by decide +kernel) ?_))))
  | ((with_reducible refine' i_ixT ?at_ ?_); (case at_ => first | exact rfl | exact L2.atI_nat (j := 0) rfl | exact L2.atI_nat (j := 1) rfl))
  | ((with_reducible refine' i_ixL ?at_ ?_); (case at_ => first | exact rfl | exact L2.atI_nat (j := 0) rfl | exact L2.atI_nat (j := 1) rfl))
  | ((with_reducible refine' i_ixR ?hh ?at_ ?_); (case hh => walk_at "hlk"); (case at_ => first | exact rfl | exact L2.atI_nat (j := 0) rfl | exact L2.atI_nat (j := 1) rfl))
  | with_reducible refine i_fldS ?_
  | with_reducible refine i_bm ?_
  | ((with_reducible refine' i_tyL ?hh ?_); (case hh => walk_at "hlk"))
  | ((with_reducible refine' i_l2 ?xx ?yy ?_); (case xx => exact rfl); (case yy => exact rfl))
  | with_reducible refine i_callK ?_
  | with_reducible refine i_makeK ?_
  | with_reducible refine i_chain ?_
  | with_reducible refine i_raise ?_
  | with_reducible refine i_atx ?_
  | with_reducible refine i_lenO ?_
  | with_reducible refine i_sub_ ?_
  | with_reducible refine i_expr ?_
  | with_reducible refine i_ret ?_
  | with_reducible refine i_next ?_
  | with_reducible refine i_lc ?_
  | with_reducible refine i_r1 ?_
  | with_reducible refine i_iL ?_
  | with_reducible refine i_iE ?_
  | with_reducible refine i_iZ ?_
  | with_reducible refine i_iT ?_
  | with_reducible refine i_itsF ?_
  | with_reducible refine i_itsS ?_
  | with_reducible refine i_itsT ?_
  | ((with_reducible refine' i_itsR ?hh ?_); (case hh => walk_at "hlk"))
  | with_reducible refine i_lenF ?_
  | with_reducible refine i_lenT ?_
  | ((with_reducible refine' i_lenR ?hh ?_); (case hh => walk_at "hlk"))
  | with_reducible refine i_listF ?_
  | with_reducible refine i_listT ?_
  | ((with_reducible refine' i_listR ?hh ?_); (case hh => walk_at "hlk"))
  | with_reducible refine i_tupF ?_
  | ((with_reducible refine' i_lenOR ?hh ?_); (case hh => walk_at "hlk"))
  | ((with_reducible refine' i_tupR ?hh ?_); (case hh => walk_at "hlk"))
  | ((with_reducible refine g_isi ?_); first
    | with_reducible refine i_isi_non_bool ?_
    | with_reducible refine i_isi_non_int ?_
    | with_reducible refine i_isi_non_str ?_
    | with_reducible refine i_isi_non_list ?_
    | with_reducible refine i_isi_non_tuple ?_
    | with_reducible refine i_isi_bl_bool ?_
    | with_reducible refine i_isi_bl_int ?_
    | with_reducible refine i_isi_bl_str ?_
    | with_reducible refine i_isi_bl_list ?_
    | with_reducible refine i_isi_bl_tuple ?_
    | with_reducible refine i_isi_int_bool ?_
    | with_reducible refine i_isi_int_int ?_
    | with_reducible refine i_isi_int_str ?_
    | with_reducible refine i_isi_int_list ?_
    | with_reducible refine i_isi_int_tuple ?_
    | with_reducible refine i_isi_str_bool ?_
    | with_reducible refine i_isi_str_int ?_
    | with_reducible refine i_isi_str_str ?_
    | with_reducible refine i_isi_str_list ?_
    | with_reducible refine i_isi_str_tuple ?_
    | with_reducible refine i_isi_tup_bool ?_
    | with_reducible refine i_isi_tup_int ?_
    | with_reducible refine i_isi_tup_str ?_
    | with_reducible refine i_isi_tup_list ?_
    | with_reducible refine i_isi_tup_tuple ?_
    | with_reducible refine i_isi_lst_bool ?_
    | with_reducible refine i_isi_lst_int ?_
    | with_reducible refine i_isi_lst_str ?_
    | with_reducible refine i_isi_lst_list ?_
    | with_reducible refine i_isi_lst_tuple ?_)
  | with_reducible refine i_max ?_
  | with_reducible refine i_min ?_
  | with_reducible refine i_rgin ?_
  | with_reducible refine i_tabin ?_
  | with_reducible refine i_disp ?_
  | with_reducible refine i_pcons ?_
  | with_reducible refine i_pnil ?_
  | with_reducible refine i_dget ?_
  | with_reducible refine i_din ?_
  | with_reducible refine i_dput ?_
  | ((with_reducible refine' i_wgtup ?nn ?_); (case nn => exact rfl))
  | ((with_reducible refine' i_rngB ?aa ?bb ?_); (case aa => first | decide | omega); (case bb => first | decide | omega))
  | with_reducible refine i_for ?_
  | with_reducible refine i_while ?_
  | with_reducible refine i_wgcons ?_
  | with_reducible refine i_wgnil ?_
  | with_reducible refine i_wslL ?_
  | with_reducible refine i_nopart ?_
  | with_reducible refine i_part ?_
  | ((with_reducible refine' i_wgunl ?nn ?_); (case nn => exact rfl))
  | ((with_reducible refine' i_xf ?ee ?_); (case ee => exact rfl))
  | ((with_reducible refine' i_errIs ?ee ?_); (case ee => exact rfl))
  | with_reducible refine i_bm0 ?_
  | with_reducible refine i_intB ?_
  | with_reducible refine i_intI ?_
  | with_reducible refine i_tryThru ?_
  | with_reducible refine i_iS ?_
  | with_reducible refine i_str1 ?_
  | with_reducible refine i_tyS ?_
  | with_reducible refine i_fmtI ?_
  | with_reducible refine i_js ?_
  | with_reducible refine i_jsc ?_
  | with_reducible refine i_jsn ?_
  ))

/-! ### things and houses asked for -/
def thingAt (ws : Rooms) : RefD → Option Thing
  | .thing a b => if 0 ≤ a ∧ 0 ≤ b then (ws[a.toNat]?).bind (·[b.toNat]?) else none
  | .made _ _ _ => none
theorem there_at (ws : Rooms) (r : RefD) : isThere ws r = (thingAt ws r).isSome := by
  cases r with
  | made a b c => rfl
  | thing a b =>
    show decide (0 ≤ a ∧ a < (ws.length : Int) ∧ 0 ≤ b ∧ b < (((ws[a.toNat]?).getD []).length : Int)) = (if 0 ≤ a ∧ 0 ≤ b then (ws[a.toNat]?).bind (·[b.toNat]?) else none).isSome
    by_cases c : 0 ≤ a ∧ 0 ≤ b
    · rw [if_pos c]
      cases e : ws[a.toNat]? with
      | none =>
        have : ¬ a.toNat < ws.length := fun z => by rw [List.getElem?_eq_getElem z] at e; cases e
        simp only [Option.getD_none, Option.bind_none, Option.isSome_none, List.length_nil]
        exact decide_eq_false (by omega)
      | some hs =>
        have hl := (List.getElem?_eq_some_iff.mp e).1
        simp only [Option.getD_some, Option.bind_some]
        cases e2 : hs[b.toNat]? with
        | none =>
          have : ¬ b.toNat < hs.length := fun z => by rw [List.getElem?_eq_getElem z] at e2; cases e2
          exact decide_eq_false (by omega)
        | some th =>
          have h2 := (List.getElem?_eq_some_iff.mp e2).1
          exact decide_eq_true (by omega)
    · rw [if_neg c]
      exact decide_eq_false (by omega)
def fs_World_thing (cl : Str → Addr) : FS where
  P := Rooms × RefD
  pre := fun (ws, r) vs h => vs = [worldV cl ws, r.v] ∧ SmallW ws
  post := fun (ws, r) h v h' => ∃ th, thingAt ws r = some th ∧ v = th.v ∧ h' = h
  xpost := fun (ws, r) h C x h' => thingAt ws r = none ∧ C = cl "NoThing" ∧ x = r.v ∧ h' = h
theorem c_World_thing {cl : Str → Addr} {ws : Rooms} {r : RefD} {h : Hh} {E : XQ} {Q : KQ} (s : SmallW ws) (k : ∀ th, thingAt ws r = some th → Q th.v h) (kx : thingAt ws r = none → E (cl "NoThing") r.v h) : (fs_World_thing cl).sp [worldV cl ws, r.v] h E Q :=
  ⟨(ws, r), ⟨rfl, s⟩, fun v h' ⟨th, e, a, b⟩ => by subst a b; exact k th e, fun C x h' ⟨e, a, b, c⟩ => by subst a b c; exact kx e⟩
def askedV (o : Option Val) (x : Val) : Val := match o with
  | some v => .lst [v, .lst []]
  | none => .lst [.non, .lst [x, .bl true, .bl true, .bl false]]
def fs_law_thing_asked (cl : Str → Addr) : FS where
  P := Rooms × RefD
  pre := fun (ws, r) vs h => vs = [worldV cl ws, r.v] ∧ SmallW ws
  post := fun (ws, r) h v h' => v = askedV ((thingAt ws r).map Thing.v) r.v ∧ h' = h
theorem c_law_thing_asked {cl : Str → Addr} {ws : Rooms} {r : RefD} {h : Hh} {E : XQ} {Q : KQ} (s : SmallW ws) (k : Q (askedV ((thingAt ws r).map Thing.v) r.v) h) : (fs_law_thing_asked cl).sp [worldV cl ws, r.v] h E Q :=
  ⟨(ws, r), ⟨rfl, s⟩, fun v h' ⟨a, b⟩ => by subst a b; exact k, fun _ _ _ z => z.elim⟩
def houseAt (ws : Rooms) (n : Int) : Option (List Thing) := if 0 ≤ n then ws[n.toNat]? else none
def fs_law_house_asked (cl : Str → Addr) : FS where
  P := Rooms × Int
  pre := fun (ws, n) vs h => vs = [worldV cl ws, .int n] ∧ SmallW ws
  post := fun (ws, n) h v h' => v = askedV ((houseAt ws n).map houseV) (.int n) ∧ h' = h
theorem c_law_house_asked {cl : Str → Addr} {ws : Rooms} {n : Int} {h : Hh} {E : XQ} {Q : KQ} (s : SmallW ws) (k : Q (askedV ((houseAt ws n).map houseV) (.int n)) h) : (fs_law_house_asked cl).sp [worldV cl ws, .int n] h E Q :=
  ⟨(ws, n), ⟨rfl, s⟩, fun v h' ⟨a, b⟩ => by subst a b; exact k, fun _ _ _ z => z.elim⟩
def r_World_thing (cl : Str → Addr) : WS :=
  wSeq (wIf (wNot (wTv (wCall fs_is_there [] (wCons (wFld (cl "World") (wVar 0) "houses_kept") (wCons (wVar 1) (wNil)))))) (wRaise (cl "NoThing") (wVar 1)) (wNext))
  (wRet (wOp wIx (wOp wIx (wFld (cl "World") (wVar 0) "houses_kept") (wOp wIx (wVar 1) (wC (.int 1)))) (wOp wIx (wVar 1) (wC (.int 2)))))

def r_law_thing_asked (cl : Str → Addr) : WS :=
  wSeq (wAsg (wC .non) (wgName 2))
  (wSeq (wAsg (wLst (wNil)) (wgName 3))
  (wSeq (wTryAs [cl "NoThing"] [] 4
  (wAsg (wMethK (cl "World") "thing" (fs_World_thing cl) 0 1 [(.inr 0)] (wVar 0) wNil (wCons (wVar 1) (wNil))) (wgName 2))
  (fun ea eC edd => wAsg (wLst (wCons (wXf ea edd (wVar 4)) (wCons (wErrIs true ea edd 4) (wCons (wErrIs true ea edd 4) (wCons (wErrIs false ea edd 4) (wNil)))))) (wgName 3)))
  (wRet (wLst (wCons (wVar 2) (wCons (wVar 3) (wNil)))))))

def r_law_house_asked (cl : Str → Addr) : WS :=
  wSeq (wAsg (wC .non) (wgName 2))
  (wSeq (wAsg (wLst (wNil)) (wgName 3))
  (wSeq (wTryAs [cl "NoHouse"] [] 4
  (wAsg (wMethK (cl "World") "house" (fs_World_house cl) 0 1 [(.inr 0)] (wVar 0) wNil (wCons (wVar 1) (wNil))) (wgName 2))
  (fun ea eC edd => wAsg (wLst (wCons (wXf ea edd (wVar 4)) (wCons (wErrIs true ea edd 4) (wCons (wErrIs true ea edd 4) (wCons (wErrIs false ea edd 4) (wNil)))))) (wgName 3)))
  (wRet (wLst (wCons (wVar 2) (wCons (wVar 3) (wNil)))))))

theorem rd_World_thing {K : Fr} {cl : Str → Addr} {p vs h Q} {X : XQ} (gd : Good K Q) (q : (fs_World_thing cl).pre p vs h) (hp : ∀ v h', (fs_World_thing cl).post p h v h' → Q v h') (hx : ∀ C v h', (fs_World_thing cl).xpost p h C v h' → X C v h') :
    r_World_thing cl (fun _ h' => Q .non h') Q (fun _ _ => False) (fun _ _ => False) (fun C v _ h' => X C v h') (startV ["self", "ref"] vs) h := by
  obtain ⟨ws, r⟩ := p
  obtain ⟨rfl, sm⟩ := q
  show r_World_thing _ _ _ _ _ _ [some (.obj (cl "World") [("houses_kept", .lst (ws.map houseV))]), some r.v] h
  unfold r_World_thing
  walk_at "zgo"
  refine c_is_there (HsAt.frozen ws) sm ?_
  rw [there_at]
  cases e : thingAt ws r with
  | none =>
    walk_at "zgo"
    exact hx _ _ _ ⟨e, rfl, rfl, rfl⟩
  | some th =>
    cases r with
    | made a b c => cases e
    | thing a b =>
      have e0 := e
      replace e : (if 0 ≤ a ∧ 0 ≤ b then (ws[a.toNat]?).bind (·[b.toNat]?) else none) = some th := e
      split at e
      · rename_i c
        obtain ⟨hs, e1, e2⟩ := Option.bind_eq_some_iff.mp e
        unfold RefD.v
        walk_at "zgo"
        refine i_ixL (atI_toNat c.1 (v := houseV hs) (by rw [List.getElem?_map, e1]; rfl)) ?_
        walk_at "zgo"
        refine i_ixL (atI_toNat c.2 (v := th.v) (by rw [List.getElem?_map, e2]; rfl)) ?_
        exact hp _ _ ⟨th, e0, rfl, rfl⟩
      · cases e
theorem rd_law_thing_asked {K : Fr} {cl : Str → Addr} {p vs h Q} {X : XQ} (gd : Good K Q) (q : (fs_law_thing_asked cl).pre p vs h) (hp : ∀ v h', (fs_law_thing_asked cl).post p h v h' → Q v h') :
    r_law_thing_asked cl (fun _ h' => Q .non h') Q (fun _ _ => False) (fun _ _ => False) (fun C v _ h' => X C v h') (startV ["world", "named", "found", "refused", "e"] vs) h := by
  obtain ⟨ws, r⟩ := p
  obtain ⟨rfl, sm⟩ := q
  have hq : ∀ b, askedV ((thingAt ws r).map Thing.v) r.v = b → Q b h := fun b e => hp _ _ ⟨e.symm, rfl⟩
  clear hp
  show r_law_thing_asked _ _ _ _ _ _ [some (worldV cl ws), some r.v, none, none, none] h
  unfold r_law_thing_asked
  walk_at "zgo"
  refine i_newF ?_
  walk_at "zgo"
  refine i_tryAs ?_
  walk_at "zgo"
  refine c_World_thing sm (fun th e => ?_) (fun e => ?_)
  · walk_at "zgo"
    refine i_newF ?_
    exact hq _ (by rw [e]; rfl)
  · refine .inl ⟨List.mem_singleton.mpr rfl, fun er edd hea => ?_⟩
    dsimp only [List.set]
    walk_at "zgo"
    refine i_newF ?_
    walk_at "zgo"
    dsimp only [List.set]
    walk_at "zgo"
    refine i_newF ?_
    exact hq _ (by rw [e]; rfl)
theorem rd_law_house_asked {K : Fr} {cl : Str → Addr} {p vs h Q} {X : XQ} (gd : Good K Q) (q : (fs_law_house_asked cl).pre p vs h) (hp : ∀ v h', (fs_law_house_asked cl).post p h v h' → Q v h') :
    r_law_house_asked cl (fun _ h' => Q .non h') Q (fun _ _ => False) (fun _ _ => False) (fun C v _ h' => X C v h') (startV ["world", "spot", "found", "refused", "e"] vs) h := by
  obtain ⟨ws, n⟩ := p
  obtain ⟨rfl, sm⟩ := q
  have hq : ∀ b, askedV ((houseAt ws n).map houseV) (.int n) = b → Q b h := fun b e => hp _ _ ⟨e.symm, rfl⟩
  clear hp
  show r_law_house_asked _ _ _ _ _ _ [some (worldV cl ws), some (.int n), none, none, none] h
  unfold r_law_house_asked
  walk_at "zgo"
  refine i_newF ?_
  walk_at "zgo"
  refine i_tryAs ?_
  walk_at "zgo"
  refine ⟨(ws, n, true), ⟨rfl, sm⟩, fun v h' ⟨n0, hs, e, a, b⟩ => ?_, fun C x h' ⟨c, a, b, d⟩ => ?_⟩
  · subst a b
    walk_at "zgo"
    refine i_newF ?_
    exact hq _ (by unfold houseAt; rw [if_pos n0, e]; rfl)
  · subst a b d
    have e : houseAt ws n = none := by
      unfold houseAt
      split
      · exact List.getElem?_eq_none (by omega)
      · rfl
    refine .inl ⟨List.mem_singleton.mpr rfl, fun er edd hea => ?_⟩
    dsimp only [List.set]
    walk_at "zgo"
    refine i_newF ?_
    walk_at "zgo"
    dsimp only [List.set]
    walk_at "zgo"
    refine i_newF ?_
    exact hq _ (by rw [e]; rfl)
/-! LQ2 -/


def fs_law_wild_ref_v1 : FS := fs_law_wild_ref
def fs_law_things_right (cl : Str → Addr) : FS where
  P := Addr × Addr × Int × Rooms
  pre := fun (t, g, n, ws) vs h => vs = [.ref t, worldV cl ws, roomsV ws] ∧ Tray h t g n ∧ n ≤ 1000000000000 ∧ WorldOk ws
  post := fun (t, g, n, ws) h v h' => v = .bl true ∧ Tray h' t g (n + 200)
theorem c_law_things_right {cl : Str → Addr} {t g : Addr} {n : Int} {ws : Rooms} {h : Hh} {E : XQ} {Q : KQ} (T : Tray h t g n) (hn : n ≤ 1000000000000) (ok : WorldOk ws) (k : ∀ h', Tray h' t g (n + 200) → Q (.bl true) h') : (fs_law_things_right cl).sp [.ref t, worldV cl ws, roomsV ws] h E Q :=
  ⟨(t, g, n, ws), ⟨rfl, T, hn, ok⟩, fun v h' ⟨a, b⟩ => by subst a; exact k h' b, fun _ _ _ z => z.elim⟩
def fs_law_houses_right (cl : Str → Addr) : FS where
  P := Addr × Addr × Int × Rooms
  pre := fun (t, g, n, ws) vs h => vs = [.ref t, worldV cl ws, roomsV ws] ∧ Tray h t g n ∧ n ≤ 1000000000000 ∧ WorldOk ws
  post := fun (t, g, n, ws) h v h' => v = .bl true ∧ Tray h' t g (n + 200)
theorem c_law_houses_right {cl : Str → Addr} {t g : Addr} {n : Int} {ws : Rooms} {h : Hh} {E : XQ} {Q : KQ} (T : Tray h t g n) (hn : n ≤ 1000000000000) (ok : WorldOk ws) (k : ∀ h', Tray h' t g (n + 200) → Q (.bl true) h') : (fs_law_houses_right cl).sp [.ref t, worldV cl ws, roomsV ws] h E Q :=
  ⟨(t, g, n, ws), ⟨rfl, T, hn, ok⟩, fun v h' ⟨a, b⟩ => by subst a; exact k h' b, fun _ _ _ z => z.elim⟩
def r_law_wild_ref_v1 : WS :=
  wSeq (wAsg (wCall fs_law_draw [] (wCons (wVar 0) (wCons (wC (.int 6)) (wNil)))) (wgName 2))
  (wSeq (wAsg (wOp wSub (wCall fs_law_draw [] (wCons (wVar 0) (wCons (wOp wAdd (wCB cLen (wCons (wVar 1) (wNil))) (wC (.int 1))) (wNil)))) (wCB cInt (wCons (wOp wEqS (wVar 2) (wC (.int 0))) (wNil)))) (wgName 3))
  (wSeq (wAsg (wOp wSub (wCall fs_law_draw [] (wCons (wVar 0) (wCons (wC (.int 14)) (wNil)))) (wCB cInt (wCons (wOp wEqS (wVar 2) (wC (.int 1))) (wNil)))) (wgName 4))
  (wSeq (wIf (wTv (wOp wEqS (wVar 2) (wC (.int 2)))) (wAsg (wCall fs_law_great [] (wCons (wVar 0) (wNil))) (wgName 3)) (wNext))
  (wSeq (wIf (wTv (wOp wEqS (wVar 2) (wC (.int 3)))) (wAsg (wOp wSub (wUn (wC (.int 1))) (wCall fs_law_great [] (wCons (wVar 0) (wNil)))) (wgName 4)) (wNext))
  (wSeq (wIf (wAnd (wTv (wOp wGt (wVar 2) (wC (.int 3)))) (wTv (wChain wLe wLt (wC (.int 0)) (wVar 3) (wCB cLen (wCons (wVar 1) (wNil)))))) (wAsg (wOp wAdd (wOp wSub (wOp wIx (wVar 1) (wVar 3)) (wC (.int 5))) (wVar 2)) (wgName 4)) (wNext))
  (wRet (wTup (wCons (wC (.str "thing")) (wCons (wVar 3) (wCons (wVar 4) (wNil)))))))))))

def r_law_things_right (cl : Str → Addr) : WS :=
  wSeq (wAsg (wLc (wiL (wVar 2)) (tg1 3) wYes (wCB cLen (wCons (wVar 3) (wNil))) [3]) (wgName 4))
  (wSeq (wFor (wiR1 (wC (.int 4))) (wgName 5)
  (wSeq (wAsg (wCall fs_law_wild_ref_v1 [] (wCons (wVar 0) (wCons (wVar 4) (wNil)))) (wgName 6))
  (wSeq (wIf (wAnd (wTv (wOp wGt (wCB cSum (wCons (wVar 4) (wNil))) (wC (.int 0)))) (wTv (wOp wEqS (wCall fs_law_draw [] (wCons (wVar 0) (wCons (wC (.int 2)) (wNil)))) (wC (.int 0))))) (wAsg (wCall fs_law_ref [] (wCons (wVar 0) (wCons (wVar 4) (wNil)))) (wgName 6)) (wNext))
  (wSeq (wIf (wTv (wOp wEqS (wCall fs_law_draw [] (wCons (wVar 0) (wCons (wC (.int 6)) (wNil)))) (wC (.int 5)))) (wAsg (wTup (wCons (wC (.str "made")) (wCons (wOp wIx (wVar 6) (wC (.int 1))) (wCons (wC (.int 0)) (wCons (wOp wIx (wVar 6) (wC (.int 2))) (wNil)))))) (wgName 6)) (wNext))
  (wSeq (wAsg (wCall (fs_law_thing_asked cl) [] (wCons (wVar 1) (wCons (wVar 6) (wNil)))) (wgUnl 2 (wgCons (wgName 7) (wgCons (wgName 8) (wgNil)))))
  (wSeq (wAsg (wAndV (wOp wEqS (wOp wIx (wVar 6) (wC (.int 0))) (wC (.str "thing"))) (wChain wLe wLt (wC (.int 0)) (wOp wIx (wVar 6) (wC (.int 1))) (wCB cLen (wCons (wVar 4) (wNil))))) (wgName 9))
  (wSeq (wAsg (wAndV (wVar 9) (wChain wLe wLt (wC (.int 0)) (wOp wIx (wVar 6) (wC (.int 2))) (wOp wIx (wVar 4) (wOp wIx (wVar 6) (wC (.int 1)))))) (wgName 9))
  (wSeq (wAsg (wC .non) (wgName 10))
  (wSeq (wIf (wTv (wVar 9)) (wAsg (wOp wIx (wOp wIx (wVar 2) (wOp wIx (wVar 6) (wC (.int 1)))) (wOp wIx (wVar 6) (wC (.int 2)))) (wgName 10)) (wNext))
  (wSeq (wIf (wAnd (wTv (wVar 9)) (wOr (wTv (wOp wNeD (wVar 8) (wLst (wNil)))) (wNot (wTv (wCall (fs_law_alike 5) [] (wCons (wVar 7) (wCons (wVar 10) (wNil)))))))) (wRet (wC (.bl false))) (wNext))
  (wIf (wAnd (wNot (wTv (wVar 9))) (wNot (wTv (wCall (fs_law_alike 5) [] (wCons (wVar 8) (wCons (wLst (wCons (wVar 6) (wCons (wC (.bl true)) (wCons (wC (.bl true)) (wCons (wC (.bl false)) (wNil)))))) (wNil))))))) (wRet (wC (.bl false))) (wNext))))))))))))
  (wRet (wC (.bl true))))

def r_law_houses_right (cl : Str → Addr) : WS :=
  wSeq (wAsg (wCall fs_law_great [] (wCons (wVar 0) (wNil))) (wgName 3))
  (wSeq (wAsg (wCB cLen (wCons (wVar 2) (wNil))) (wgName 4))
  (wSeq (wFor (wiL (wLst (wCons (wUn (wC (.int 2))) (wCons (wUn (wC (.int 1))) (wCons (wC (.int 0)) (wCons (wOp wSub (wVar 4) (wC (.int 1))) (wCons (wVar 4) (wCons (wOp wAdd (wVar 4) (wC (.int 1))) (wCons (wVar 3) (wCons (wOp wSub (wUn (wC (.int 3))) (wVar 3)) (wNil))))))))))) (wgName 5)
  (wSeq (wAsg (wCall (fs_law_house_asked cl) [] (wCons (wVar 1) (wCons (wVar 5) (wNil)))) (wgUnl 2 (wgCons (wgName 6) (wgCons (wgName 7) (wgNil)))))
  (wSeq (wAsg (wChain wLe wLt (wC (.int 0)) (wVar 5) (wCB cLen (wCons (wVar 2) (wNil)))) (wgName 8))
  (wSeq (wIf (wAnd (wTv (wVar 8)) (wOr (wTv (wOp wNeD (wVar 7) (wLst (wNil)))) (wNot (wTv (wCall (fs_law_alike 5) [] (wCons (wVar 6) (wCons (wOp wIx (wVar 2) (wVar 5)) (wNil)))))))) (wRet (wC (.bl false))) (wNext))
  (wIf (wAnd (wNot (wTv (wVar 8))) (wNot (wTv (wCall (fs_law_alike 5) [] (wCons (wVar 7) (wCons (wLst (wCons (wVar 5) (wCons (wC (.bl true)) (wCons (wC (.bl true)) (wCons (wC (.bl false)) (wNil)))))) (wNil))))))) (wRet (wC (.bl false))) (wNext))))))
  (wRet (wC (.bl true)))))

theorem rd_law_wild_ref_v1 {K : Fr} {p vs h Q} {X : XQ} (gd : Good K Q) (q : fs_law_wild_ref_v1.pre p vs h) (hp : ∀ v h', fs_law_wild_ref_v1.post p h v h' → Q v h') :
    r_law_wild_ref_v1 (fun _ h' => Q .non h') Q (fun _ _ => False) (fun _ _ => False) (fun C v _ h' => X C v h') (startV ["tray", "sizes", "kind", "house", "spot"] vs) h :=
  rd_law_wild_ref gd q hp
theorem ref_pure4 (r : RefD) : PureV 4 (.lst [r.v, .bl true, .bl true, .bl false]) := .lst (by simp) fun x hx => by
  simp only [List.mem_cons, List.not_mem_nil, or_false] at hx
  rcases hx with rfl | rfl | rfl | rfl
  · exact r.pure.up.up
  · exact .bl _ _
  · exact .bl _ _
  · exact .bl _ _
theorem rd_law_things_right {K : Fr} {cl : Str → Addr} {p vs h Q} {X : XQ} (gd : Good K Q) (q : (fs_law_things_right cl).pre p vs h) (hp : ∀ v h', (fs_law_things_right cl).post p h v h' → Q v h') :
    r_law_things_right cl (fun _ h' => Q .non h') Q (fun _ _ => False) (fun _ _ => False) (fun C v _ h' => X C v h') (startV ["tray", "world", "houses", "things", "sizes", "k", "named", "found", "refused", "there", "due"] vs) h := by
  obtain ⟨t, g, n, ws⟩ := p
  obtain ⟨rfl, T, hn, ok⟩ := q
  have sm := ok.small
  have hml := ok.most
  show r_law_things_right _ _ _ _ _ _ [some (.ref t), some (worldV cl ws), some (.lst (ws.map houseV)), none, none, none, none, none, none, none, none] h
  unfold r_law_things_right
  walk_at "zgo"
  refine lc_inv (fun k acc h5 => h5 = h ∧ acc = natsV ((ws.take k).map List.length)) ⟨rfl, rfl⟩ ?_
  rintro k acc h5 ⟨rfl, rfl⟩
  refine ⟨trivial, fun hk => ?_, fun z hz3 => ?_⟩
  rotate_left
  · obtain ⟨hs, hhs, rfl⟩ := map_get hz3
    unfold houseV
    walk_at "zgo"
    refine ⟨by simp [natsV]; omega, rfl, ?_⟩
    rw [List.take_succ, hhs, List.map_append]
    simp [natsV]
  rw [List.length_map] at hk
  rw [List.take_of_length_le hk]
  clear hk
  refine i_newF ?_
  walk_at "zgo"
  refine for_inv (fun i ρ h' => (∃ a b c d e f : Option Val, ρ = [some (.ref t), some (worldV cl ws), some (.lst (ws.map houseV)), none, some (.lst (natsV (ws.map List.length))), a, b, c, d, e, f]) ∧ Tray h' t g (n + 40 * i) ∧ i ≤ 4) ⟨⟨_, _, _, _, _, _, rfl⟩, T.more (by omega), by omega⟩ ?_
  rintro i ρ h1 ⟨⟨v1, v2, v3, v4, v5, v6, rfl⟩, T1, hi⟩
  refine ⟨trivial, fun _ => ?_, fun z hz => ?_⟩
  · walk_at "zgo"
    exact hp _ _ ⟨rfl, T1.more (by omega)⟩
  obtain ⟨hi', rfl⟩ := rng_get hz
  have hi2 : i < 4 := by simpa using hi'
  have ln : (natsV (ws.map List.length)).length = ws.length := by simp [natsV]
  generalize hR : wSeq (wAsg (wCall (fs_law_thing_asked cl) [] _) _) _ = REST
  have rest : ∀ (r : RefD) (h4 : Hh), Tray h4 t g (n + 40 * i + 30) → REST (fun ρ h' => (∃ a b c d e f : Option Val, ρ = [some (.ref t), some (worldV cl ws), some (.lst (ws.map houseV)), none, some (.lst (natsV (ws.map List.length))), a, b, c, d, e, f]) ∧ Tray h' t g (n + 40 * ((i + 1 : Nat) : Int)) ∧ i + 1 ≤ 4) Q (wRet (wC (.bl true)) (fun _ h' => Q .non h') Q (fun _ _ => False) (fun _ _ => False) fun C v _ h' => X C v h') (fun ρ h' => (∃ a b c d e f : Option Val, ρ = [some (.ref t), some (worldV cl ws), some (.lst (ws.map houseV)), none, some (.lst (natsV (ws.map List.length))), a, b, c, d, e, f]) ∧ Tray h' t g (n + 40 * ((i + 1 : Nat) : Int)) ∧ i + 1 ≤ 4) (fun C v _ h' => X C v h') [some (.ref t), some (worldV cl ws), some (.lst (ws.map houseV)), none, some (.lst (natsV (ws.map List.length))), some (.int (0 + (i : Int))), some r.v, v3, v4, v5, v6] h4 := fun r h4 T4 => by
    rw [← hR]
    clear hR
    generalize hR2 : wSeq (wIf (wAnd (wTv (wVar 9)) _) _ _) _ = REST2
    walk_at "zgo"
    refine c_law_thing_asked sm ?_
    cases e : thingAt ws r with
    | none =>
      have fin : REST2 (fun ρ h' => (∃ a b c d e f : Option Val, ρ = [some (.ref t), some (worldV cl ws), some (.lst (ws.map houseV)), none, some (.lst (natsV (ws.map List.length))), a, b, c, d, e, f]) ∧ Tray h' t g (n + 40 * ((i + 1 : Nat) : Int)) ∧ i + 1 ≤ 4) Q (wRet (wC (.bl true)) (fun _ h' => Q .non h') Q (fun _ _ => False) (fun _ _ => False) fun C v _ h' => X C v h') (fun ρ h' => (∃ a b c d e f : Option Val, ρ = [some (.ref t), some (worldV cl ws), some (.lst (ws.map houseV)), none, some (.lst (natsV (ws.map List.length))), a, b, c, d, e, f]) ∧ Tray h' t g (n + 40 * ((i + 1 : Nat) : Int)) ∧ i + 1 ≤ 4) (fun C v _ h' => X C v h') [some (.ref t), some (worldV cl ws), some (.lst (ws.map houseV)), none, some (.lst (natsV (ws.map List.length))), some (.int (0 + (i : Int))), some r.v, some .non, some (.lst [r.v, .bl true, .bl true, .bl false]), some (.bl false), some .non] h4 := by
        rw [← hR2]
        walk_at "zgo"
        refine i_newF ?_
        walk_at "zgo"
        refine c_law_alike (ref_pure4 r) ?_
        walk_at "zgo"
        exact ⟨⟨_, _, _, _, _, _, rfl⟩, T4.more (by omega), by omega⟩
      show wgUnl 2 _ (.lst [.non, .lst [r.v, .bl true, .bl true, .bl false]]) _ _ _
      refine i_wgunl rfl ?_
      cases r with
      | made a b c =>
        rw [show RefD.v (.made a b c) = Val.tup [.str "made", .int a, .int b, .int c] from rfl] at fin ⊢
        walk_at "zgo"
        exact fin
      | thing a b =>
        have e2 : (if 0 ≤ a ∧ 0 ≤ b then (ws[a.toNat]?).bind (·[b.toNat]?) else none) = none := e
        rw [show RefD.v (.thing a b) = Val.tup [.str "thing", .int a, .int b] from rfl] at fin ⊢
        by_cases c1 : 0 ≤ a
        · walk_at "zgo"
          rw [ln]
          by_cases c2 : a < (ws.length : Int)
          · have ha : a.toNat < ws.length := by omega
            have hw : ws[a.toNat]? = some ws[a.toNat] := List.getElem?_eq_getElem ha
            have hn2 : L2.atI (natsV (ws.map List.length)) a = some (.int (ws[a.toNat].length : Int)) := atI_toNat c1 (by unfold natsV; rw [List.getElem?_map, List.getElem?_map, hw]; rfl)
            walk_at "zgo"
            by_cases c3 : 0 ≤ b
            · have c4 : ¬ b < (ws[a.toNat].length : Int) := fun z => by
                rw [if_pos ⟨c1, c3⟩, hw, Option.bind_some, List.getElem?_eq_getElem (by omega)] at e2
                cases e2
              walk_at "zgo"
              refine i_ixL hn2 ?_
              walk_at "zgo"
              rw [decide_eq_false c4]
              exact fin
            · walk_at "zgo"
              exact fin
          · walk_at "zgo"
            exact fin
        · walk_at "zgo"
          exact fin
    | some th =>
      cases r with
      | made a b c => cases e
      | thing a b =>
        have e2 : (if 0 ≤ a ∧ 0 ≤ b then (ws[a.toNat]?).bind (·[b.toNat]?) else none) = some th := e
        split at e2
        · rename_i c
          obtain ⟨hs, e1, e3⟩ := Option.bind_eq_some_iff.mp e2
          have l1 := (List.getElem?_eq_some_iff.mp e1).1
          have l2 := (List.getElem?_eq_some_iff.mp e3).1
          have c1 := c.1
          have c3 := c.2
          have hn2 : L2.atI (natsV (ws.map List.length)) a = some (.int (hs.length : Int)) := atI_toNat c1 (by unfold natsV; rw [List.getElem?_map, List.getElem?_map, e1]; rfl)
          have hm := List.mem_of_getElem? e1
          have ht := List.mem_of_getElem? e3
          show wgUnl 2 _ (.lst [th.v, .lst []]) _ _ _
          refine i_wgunl rfl ?_
          rw [show RefD.v (.thing a b) = Val.tup [.str "thing", .int a, .int b] from rfl]
          walk_at "zgo"
          rw [ln]
          walk_at "zgo"
          refine i_ixL hn2 ?_
          walk_at "zgo"
          refine i_ixL (atI_toNat c1 (v := houseV hs) (by rw [List.getElem?_map, e1]; rfl)) ?_
          walk_at "zgo"
          refine i_ixL (atI_toNat c3 (v := th.v) (by rw [List.getElem?_map, e3]; rfl)) ?_
          rw [← hR2]
          walk_at "zgo"
          refine i_newF ?_
          refine i_neNil0 (.lst .nil) ?_
          walk_at "zgo"
          refine c_law_alike (d := 4) (Thing.pure (Nat.le_trans (refs_ok (ok.ok hs hm th ht)) (by decide))).up ?_
          walk_at "zgo"
          exact ⟨⟨_, _, _, _, _, _, rfl⟩, T4.more (by omega), by omega⟩
        · cases e2
  walk_at "zgo"
  refine c_law_wild_ref T1 (by omega) (by simp; omega) fun a b h2 T2 kp2 => ?_
  generalize hR3 : wSeq (wIf (wTv (wOp wEqS (wCall fs_law_draw [] (wCons (wVar 0) (wCons (wC (.int 6)) (wNil)))) (wC (.int 5)))) _ _) REST = REST3
  have rest3 : ∀ (a b : Int) (h4 : Hh), Tray h4 t g (n + 40 * i + 25) → REST3 (fun ρ h' => (∃ a b c d e f : Option Val, ρ = [some (.ref t), some (worldV cl ws), some (.lst (ws.map houseV)), none, some (.lst (natsV (ws.map List.length))), a, b, c, d, e, f]) ∧ Tray h' t g (n + 40 * ((i + 1 : Nat) : Int)) ∧ i + 1 ≤ 4) Q (wRet (wC (.bl true)) (fun _ h' => Q .non h') Q (fun _ _ => False) (fun _ _ => False) fun C v _ h' => X C v h') (fun ρ h' => (∃ a b c d e f : Option Val, ρ = [some (.ref t), some (worldV cl ws), some (.lst (ws.map houseV)), none, some (.lst (natsV (ws.map List.length))), a, b, c, d, e, f]) ∧ Tray h' t g (n + 40 * ((i + 1 : Nat) : Int)) ∧ i + 1 ≤ 4) (fun C v _ h' => X C v h') [some (.ref t), some (worldV cl ws), some (.lst (ws.map houseV)), none, some (.lst (natsV (ws.map List.length))), some (.int (0 + (i : Int))), some (RefD.thing a b).v, v3, v4, v5, v6] h4 := fun a b h4 T4 => by
    rw [← hR3]
    rw [show RefD.v (.thing a b) = Val.tup [.str "thing", .int a, .int b] from rfl]
    walk_at "zgo"
    refine c_law_draw T4 (by omega) (by decide) (by decide) fun r h5 r0 r1 T5 kp5 => ?_
    by_cases c : r = 5
    · walk_at "zgo"
      exact rest (.made a 0 b) h5 (T5.more (by omega))
    · walk_at "zgo"
      exact rest (.thing a b) h5 (T5.more (by omega))
  walk_at "zgo"
  rw [natsV_ints]
  refine ⟨_, _, rfl, .lst _, ?_⟩
  rw [← natsV_ints, sum_cast]
  have rest4 : ∀ (r : RefD) (h4 : Hh), In (ws.map List.length) r → Tray h4 t g (n + 40 * i + 25) → REST3 (fun ρ h' => (∃ a b c d e f : Option Val, ρ = [some (.ref t), some (worldV cl ws), some (.lst (ws.map houseV)), none, some (.lst (natsV (ws.map List.length))), a, b, c, d, e, f]) ∧ Tray h' t g (n + 40 * ((i + 1 : Nat) : Int)) ∧ i + 1 ≤ 4) Q (wRet (wC (.bl true)) (fun _ h' => Q .non h') Q (fun _ _ => False) (fun _ _ => False) fun C v _ h' => X C v h') (fun ρ h' => (∃ a b c d e f : Option Val, ρ = [some (.ref t), some (worldV cl ws), some (.lst (ws.map houseV)), none, some (.lst (natsV (ws.map List.length))), a, b, c, d, e, f]) ∧ Tray h' t g (n + 40 * ((i + 1 : Nat) : Int)) ∧ i + 1 ≤ 4) (fun C v _ h' => X C v h') [some (.ref t), some (worldV cl ws), some (.lst (ws.map houseV)), none, some (.lst (natsV (ws.map List.length))), some (.int (0 + (i : Int))), some r.v, v3, v4, v5, v6] h4 := fun r h4 hi T4 => by
    cases r with
    | thing a b => exact rest3 a b h4 T4
    | made a b c => exact hi.elim
  have hsum := sum_le (ns := ws.map List.length) (fun k hk => by
    obtain ⟨hs, hh, rfl⟩ := List.mem_map.mp hk
    exact ok.house hs hh)
  rw [List.length_map] at hsum
  by_cases c0 : 0 < (ws.map List.length).sum
  · walk_at "zgo"
    refine c_law_draw T2 (by omega) (by decide) (by decide) fun r h3 r0 r1 T3 kp3 => ?_
    by_cases c : r = 0
    · walk_at "zgo"
      refine c_law_ref T3 (by omega) c0 (by omega) fun r h4 hin T4 kp4 => ?_
      walk_at "zgo"
      exact rest4 r h4 hin (T4.more (by omega))
    · walk_at "zgo"
      exact rest3 a b h3 (T3.more (by omega))
  · walk_at "zgo"
    exact rest3 a b h2 (T2.more (by omega))
theorem four_int (s : Int) : PureV 4 (.lst [.int s, .bl true, .bl true, .bl false]) := .lst (by simp) fun x hx => by
  simp only [List.mem_cons, List.not_mem_nil, or_false] at hx
  rcases hx with rfl | rfl | rfl | rfl
  · exact .int _ _
  · exact .bl _ _
  · exact .bl _ _
  · exact .bl _ _
theorem rd_law_houses_right {K : Fr} {cl : Str → Addr} {p vs h Q} {X : XQ} (gd : Good K Q) (q : (fs_law_houses_right cl).pre p vs h) (hp : ∀ v h', (fs_law_houses_right cl).post p h v h' → Q v h') :
    r_law_houses_right cl (fun _ h' => Q .non h') Q (fun _ _ => False) (fun _ _ => False) (fun C v _ h' => X C v h') (startV ["tray", "world", "houses", "great", "many", "spot", "found", "refused", "there"] vs) h := by
  obtain ⟨t, g, n, ws⟩ := p
  obtain ⟨rfl, T, hn, ok⟩ := q
  have sm := ok.small
  have hml := ok.most
  show r_law_houses_right _ _ _ _ _ _ [some (.ref t), some (worldV cl ws), some (.lst (ws.map houseV)), none, none, none, none, none, none] h
  unfold r_law_houses_right
  walk_at "zgo"
  refine c_law_great T (by omega) fun gr h1 g0 g1 T1 kp1 => ?_
  walk_at "zgo"
  rw [List.length_map]
  refine i_newF ?_
  walk_at "zgo"
  refine for_inv (fun i ρ h' => h' = h1 ∧ ∃ a b c d : Option Val, ρ = [some (.ref t), some (worldV cl ws), some (.lst (ws.map houseV)), some (.int gr), some (.int (ws.length : Int)), a, b, c, d]) ⟨rfl, _, _, _, _, rfl⟩ ?_
  rintro i ρ h2 ⟨rfl, v1, v2, v3, v4, rfl⟩
  refine ⟨trivial, fun _ => ?_, fun z hz => ?_⟩
  · walk_at "zgo"
    exact hp _ _ ⟨rfl, T1.more (by omega)⟩
  obtain ⟨s, rfl⟩ : ∃ s : Int, z = .int s := by
    have : i = 0 ∨ i = 1 ∨ i = 2 ∨ i = 3 ∨ i = 4 ∨ i = 5 ∨ i = 6 ∨ i = 7 ∨ 8 ≤ i := by omega
    rcases this with rfl | rfl | rfl | rfl | rfl | rfl | rfl | rfl | q
    · exact ⟨_, (Option.some.inj hz).symm⟩
    · exact ⟨_, (Option.some.inj hz).symm⟩
    · exact ⟨_, (Option.some.inj hz).symm⟩
    · exact ⟨_, (Option.some.inj hz).symm⟩
    · exact ⟨_, (Option.some.inj hz).symm⟩
    · exact ⟨_, (Option.some.inj hz).symm⟩
    · exact ⟨_, (Option.some.inj hz).symm⟩
    · exact ⟨_, (Option.some.inj hz).symm⟩
    · rw [List.getElem?_eq_none (by simpa using q)] at hz; cases hz
  clear hz
  walk_at "zgo"
  refine c_law_house_asked sm ?_
  cases e : houseAt ws s with
  | none =>
    show wgUnl 2 _ (.lst [.non, .lst [.int s, .bl true, .bl true, .bl false]]) _ _ _
    refine i_wgunl rfl ?_
    have c : ¬ (0 ≤ s ∧ s < (ws.length : Int)) := fun z => by
      unfold houseAt at e
      rw [if_pos z.1, List.getElem?_eq_getElem (by omega)] at e
      cases e
    by_cases c1 : 0 ≤ s
    · have c2 : ¬ s < (ws.length : Int) := fun z => c ⟨c1, z⟩
      walk_at "zgo"
      rw [List.length_map, decide_eq_false c2]
      walk_at "zgo"
      refine i_newF ?_
      walk_at "zgo"
      refine c_law_alike (four_int s) ?_
      walk_at "zgo"
      exact ⟨rfl, _, _, _, _, rfl⟩
    · walk_at "zgo"
      refine i_newF ?_
      walk_at "zgo"
      refine c_law_alike (four_int s) ?_
      walk_at "zgo"
      exact ⟨rfl, _, _, _, _, rfl⟩
  | some hs =>
    show wgUnl 2 _ (.lst [houseV hs, .lst []]) _ _ _
    refine i_wgunl rfl ?_
    unfold houseAt at e
    split at e
    · rename_i c1
      have l1 := (List.getElem?_eq_some_iff.mp e).1
      have c2 : s < (ws.length : Int) := by omega
      walk_at "zgo"
      rw [List.length_map, decide_eq_true c2]
      walk_at "zgo"
      refine i_newF ?_
      refine i_neNil0 (.lst .nil) ?_
      walk_at "zgo"
      refine i_ixL (atI_toNat c1 (v := houseV hs) (by rw [List.getElem?_map, e]; rfl)) ?_
      walk_at "zgo"
      refine c_law_alike (ok.pure (List.mem_of_getElem? e)) ?_
      walk_at "zgo"
      exact ⟨rfl, _, _, _, _, rfl⟩
    · cases e
/-! LQ3 -/


/-! ### a second world -/
theorem In.grow {ns ms : List Nat} (sz : ∀ (i k : Nat), ns[i]? = some k → ∃ k2 : Nat, ms[i]? = some k2 ∧ k ≤ k2) : ∀ {r : RefD}, In ns r → In ms r
  | .thing a b, ⟨k, a0, e, b0, bk⟩ => by
    obtain ⟨k2, e2, l⟩ := sz _ _ e
    exact ⟨k2, a0, e2, b0, by omega⟩
  | .made _ _ _, z => z.elim
theorem Ok.grow {ns ms : List Nat} (sz : ∀ (i k : Nat), ns[i]? = some k → ∃ k2 : Nat, ms[i]? = some k2 ∧ k ≤ k2) {th : Thing} (o : th.Ok ns) : th.Ok ms := by
  cases th with
  | box w => exact o
  | shelf rs => exact ⟨o.1, fun r hr => (o.2 r hr).grow sz⟩
  | relay r => exact In.grow sz o
  | maker => trivial
  | stone => trivial
theorem WorldOk.grow {ws us : Rooms} (o : WorldOk ws) (l1 : ws.length ≤ us.length) (l8 : us.length ≤ 8) (h12 : ∀ hs ∈ us, hs.length ≤ 12) (sz : ∀ (i : Nat) (hs : List Thing), ws[i]? = some hs → ∃ gs, us[i]? = some gs ∧ hs.length ≤ gs.length)
    (th : ∀ hs ∈ us, ∀ t ∈ hs, (∃ gs ∈ ws, t ∈ gs) ∨ t = .stone ∨ t = .maker ∨ t = .box 0) : WorldOk us := by
  refine ⟨Nat.le_trans o.pos l1, l8, h12, fun hs hh t ht => ?_⟩
  have sz2 : ∀ i k, (ws.map List.length)[i]? = some k → ∃ k2, (us.map List.length)[i]? = some k2 ∧ k ≤ k2 := fun i k e => by
    rw [List.getElem?_map] at e
    obtain ⟨hs, e1, rfl⟩ := Option.map_eq_some_iff.mp e
    obtain ⟨gs, e2, l⟩ := sz i hs e1
    exact ⟨gs.length, by rw [List.getElem?_map, e2]; rfl, l⟩
  rcases th hs hh t ht with ⟨gs, hg, htg⟩ | rfl | rfl | rfl
  · exact Ok.grow sz2 (o.ok gs hg t htg)
  · trivial
  · trivial
  · exact ⟨by decide, by decide⟩
/-- one house exchanged -/
theorem WorldOk.put {ws : Rooms} (o : WorldOk ws) {i : Nat} {hs gs : List Thing} (e : ws[i]? = some hs) (l : hs.length ≤ gs.length) (l12 : gs.length ≤ 12) (th : ∀ t ∈ gs, t ∈ hs ∨ t = .stone ∨ t = .maker ∨ t = .box 0) : WorldOk (ws.set i gs) := by
  have hm := List.mem_of_getElem? e
  have hi := (List.getElem?_eq_some_iff.mp e).1
  refine o.grow (by rw [List.length_set]; exact Nat.le_refl _) (by rw [List.length_set]; exact o.most) (fun us hu => ?_) (fun j us hj => ?_) (fun us hu t ht => ?_)
  · rcases List.mem_or_eq_of_mem_set hu with hu | rfl
    · exact o.house us hu
    · exact l12
  · by_cases c : j = i
    · subst c
      rw [e] at hj
      cases hj
      exact ⟨gs, List.getElem?_set_self hi, l⟩
    · exact ⟨us, by rw [List.getElem?_set_ne (Ne.symm c)]; exact hj, Nat.le_refl _⟩
  · rcases List.mem_or_eq_of_mem_set hu with hu | rfl
    · exact .inl ⟨us, hu, ht⟩
    · rcases th t ht with h | h
      · exact .inl ⟨hs, hm, h⟩
      · exact .inr h
structure NestB (h h' : Hh) (bs : List Addr) (xss : List (List Val)) : Prop where
  len : bs.length = xss.length
  each : ∀ (i : Nat) (b : Addr) (xs : List Val), bs[i]? = some b → xss[i]? = some xs → h' b = some (.lst xs)
  nd : bs.Nodup
  fresh : ∀ c ∈ bs, h c = none
  keep : ∀ c, c ∉ bs → h' c = h c
theorem NestB.zero {h : Hh} : NestB h h [] [] := ⟨rfl, fun i b y e => by simp at e, List.nodup_nil, fun c hc => by simp at hc, fun c _ => rfl⟩
theorem NestB.out {h h' : Hh} {bs : List Addr} {xss : List (List Val)} (B : NestB h h' bs xss) {b : Addr} (hb : h' b = none) : b ∉ bs ∧ h b = none := by
  have n : b ∉ bs := fun hm => by
    obtain ⟨i, hi, rfl⟩ := List.getElem_of_mem hm
    have := B.each i bs[i] (xss[i]'(B.len ▸ hi)) (List.getElem?_eq_getElem hi) (List.getElem?_eq_getElem _)
    rw [hb] at this
    cases this
  exact ⟨n, by rw [← B.keep b n]; exact hb⟩
theorem get_one' {α : Type} {x y : α} {i : Nat} (e : [x][i]? = some y) : y = x := by
  cases i with
  | zero => exact (Option.some.inj e).symm
  | succ i => simp at e
theorem NestB.app {h h' : Hh} {bs : List Addr} {xss : List (List Val)} (B : NestB h h' bs xss) {b : Addr} (hb : h' b = none) (xs : List Val) : NestB h (hup h' b (.lst xs)) (bs ++ [b]) (xss ++ [xs]) := by
  obtain ⟨n, hn⟩ := B.out hb
  refine ⟨by simp [B.len], fun i c z e1 e2 => ?_, ?_, fun c hc => ?_, fun c hc => ?_⟩
  · rw [List.getElem?_append] at e1 e2
    rw [B.len] at e1
    split at e1
    · rename_i l
      rw [if_pos l] at e2
      have : c ≠ b := fun q => n (q ▸ List.mem_of_getElem? e1)
      rw [hup_ne this]
      exact B.each i c z e1 e2
    · rename_i l
      rw [if_neg l] at e2
      have q1 := get_one' e1
      have q2 := get_one' e2
      subst q1 q2
      exact hup_same
  · rw [List.nodup_append]
    exact ⟨B.nd, by simp, fun x hx y hy => by simp at hy; subst hy; exact fun q => n (q ▸ hx)⟩
  · rcases List.mem_append.mp hc with hc | hc
    · exact B.fresh c hc
    · simp at hc; subst hc; exact hn
  · rw [hup_ne fun q => hc (List.mem_append.mpr (.inr (by simp [q])))]
    exact B.keep c fun q => hc (List.mem_append.mpr (.inl q))
theorem NestB.top {h h' : Hh} {bs : List Addr} {xss : List (List Val)} (B : NestB h h' bs xss) {a : Addr} (ha : h' a = none) : Nest (hup h' a (.lst (bs.map Val.ref))) a bs xss :=
  Nest.outer B.len B.each (List.nodup_cons.mpr ⟨(B.out ha).1, B.nd⟩)
theorem swap_get {α : Type} {xs : List α} {i j : Nat} (hi : i < xs.length) (hj : j < xs.length) (k : Nat) : ((xs.set i xs[j]).set j xs[i])[k]? = xs[if k = j then i else if k = i then j else k]? := by
  by_cases c : k = j
  · subst c
    rw [if_pos rfl, List.getElem?_set_self (by rw [List.length_set]; exact hj), List.getElem?_eq_getElem hi]
  · rw [if_neg c, List.getElem?_set_ne (Ne.symm c)]
    by_cases d : k = i
    · subst d
      rw [if_pos rfl, List.getElem?_set_self hi, List.getElem?_eq_getElem hj]
    · rw [if_neg d, List.getElem?_set_ne (Ne.symm d)]
theorem swap_inj {i j k l : Nat} (e : (if k = j then i else if k = i then j else k) = (if l = j then i else if l = i then j else l)) : k = l := by
  by_cases a : k = j
  · rw [if_pos a] at e
    by_cases c : l = j
    · omega
    · rw [if_neg c] at e
      by_cases d : l = i
      · rw [if_pos d] at e; omega
      · rw [if_neg d] at e; omega
  · rw [if_neg a] at e
    by_cases b : k = i
    · rw [if_pos b] at e
      by_cases c : l = j
      · rw [if_pos c] at e; omega
      · rw [if_neg c] at e
        by_cases d : l = i
        · omega
        · rw [if_neg d] at e; omega
    · rw [if_neg b] at e
      by_cases c : l = j
      · rw [if_pos c] at e; omega
      · rw [if_neg c] at e
        by_cases d : l = i
        · rw [if_pos d] at e; omega
        · rw [if_neg d] at e; omega
theorem swap_nodup {α : Type} {xs : List α} {i j : Nat} (hi : i < xs.length) (hj : j < xs.length) (nd : xs.Nodup) : ((xs.set i xs[j]).set j xs[i]).Nodup := by
  refine List.pairwise_iff_getElem.mpr fun k l hk hl lt e => ?_
  have e1 := swap_get hi hj k
  have e2 := swap_get hi hj l
  rw [List.getElem?_eq_getElem hk] at e1
  rw [List.getElem?_eq_getElem hl, ← e] at e2
  have h1 := (List.getElem?_eq_some_iff.mp e1.symm).1
  have := swap_inj ((List.getElem?_inj h1 nd).mp (e1.symm.trans e2))
  omega
theorem i_eqDI {i j : Int} {h : Hh} {Q : KQ} (q : Q (.bl (decide (i = j))) h) : wEqD (.int i) (.int j) h Q := by
  refine ⟨_, _, .int i, .int j, (LayD.int 1 _).shaped (by decide), (LayD.int 1 _).shaped (by decide), ?_⟩
  have : PyData.eqv (.int i) (.int j) = decide (i = j) := by
    rw [Bool.eq_iff_iff]
    simp [PyData.eqv]
  rw [this]
  exact q
def fs_law_second : FS where
  P := Addr × Addr × Int × Rooms
  pre := fun (t, g, n, ws) vs h => vs = [.ref t, roomsV ws] ∧ Tray h t g n ∧ n ≤ 1000000000000 ∧ WorldOk ws
  post := fun (t, g, n, ws) h v h' => ∃ us : Rooms, v = roomsV us ∧ WorldOk us ∧ Tray h' t g (n + 20)
theorem c_law_second {t g : Addr} {n : Int} {ws : Rooms} {h : Hh} {E : XQ} {Q : KQ} (T : Tray h t g n) (hn : n ≤ 1000000000000) (ok : WorldOk ws) (k : ∀ us h', WorldOk us → Tray h' t g (n + 20) → Q (roomsV us) h') : fs_law_second.sp [.ref t, roomsV ws] h E Q :=
  ⟨(t, g, n, ws), ⟨rfl, T, hn, ok⟩, fun v h' ⟨us, a, b, c⟩ => by subst a; exact k us h' b c, fun _ _ _ z => z.elim⟩
def r_law_second : WS :=
  wSeq (wAsg (wCall fs_law_draw [] (wCons (wVar 0) (wCons (wC (.int 6)) (wNil)))) (wgName 2))
  (wSeq (wAsg (wCall fs_law_draw [] (wCons (wVar 0) (wCons (wCB cLen (wCons (wVar 1) (wNil))) (wNil)))) (wgName 3))
  (wSeq (wAsg (wLc (wiL (wVar 1)) (tg1 4) wYes (wCB cList (wCons (wVar 4) (wNil))) [4]) (wgName 5))
  (wSeq (wIf (wAnd (wTv (wOp wEqS (wVar 2) (wC (.int 0)))) (wTv (wOp wNeD (wOp wIx (wVar 5) (wVar 3)) (wLst (wNil))))) (wSeq (wAsg (wCall fs_law_draw [] (wCons (wVar 0) (wCons (wCB cLen (wCons (wOp wIx (wVar 5) (wVar 3)) (wNil))) (wNil)))) (wgName 6))
  (wAsg (wOp wIx (wLst (wCons (wTup (wCons (wC (.str "stone")) (wNil))) (wCons (wTup (wCons (wC (.str "maker")) (wNil))) (wCons (wTup (wCons (wC (.str "box")) (wCons (wC (.int 0)) (wNil)))) (wNil))))) (wCall fs_law_draw [] (wCons (wVar 0) (wCons (wC (.int 3)) (wNil))))) (wgSub (wOp wIx (wVar 5) (wVar 3)) (wVar 6) wSetL (fun _ _ _ => False)))) (wIf (wAnd (wTv (wOp wEqS (wVar 2) (wC (.int 1)))) (wTv (wOp wLt (wCB cLen (wCons (wVar 5) (wNil))) (wC (.int 8))))) (wExpr (wBM "list" mAppend (wVar 5) (wCons (wLst (wNil)) (wNil)))) (wIf (wTv (wOp wEqS (wVar 2) (wC (.int 2)))) (wExpr (wBM "list" mExtend (wOp wIx (wVar 5) (wVar 3)) (wCons (wOp wRep (wLst (wCons (wTup (wCons (wC (.str "stone")) (wNil))) (wNil))) (wCB cInt (wCons (wOp wLt (wCB cLen (wCons (wOp wIx (wVar 5) (wVar 3)) (wNil))) (wC (.int 12))) (wNil)))) (wNil)))) (wIf (wTv (wOp wEqS (wVar 2) (wC (.int 3)))) (wSeq (wAsg (wLc (wiL (wVar 5)) (tg1 4) wYes (wCB cLen (wCons (wVar 4) (wNil))) [4]) (wgName 7))
  (wSeq (wAsg (wOp wSub (wCB cLen (wCons (wVar 5) (wNil))) (wC (.int 1))) (wgName 8))
  (wIf (wTv (wOp wEqD (wOp wIx (wVar 7) (wVar 3)) (wOp wIx (wVar 7) (wVar 8)))) (wSeq (wAsg (wOp wIx (wVar 5) (wVar 3)) (wgName 9))
  (wSeq (wAsg (wOp wIx (wVar 5) (wVar 8)) (wgSub (wVar 5) (wVar 3) wSetL (fun _ _ _ => False)))
  (wAsg (wVar 9) (wgSub (wVar 5) (wVar 8) wSetL (fun _ _ _ => False))))) (wNext)))) (wNext)))))
  (wRet (wVar 5)))))

theorem rd_law_second {K : Fr} {p vs h Q} {X : XQ} (gd : Good K Q) (q : fs_law_second.pre p vs h) (hp : ∀ v h', fs_law_second.post p h v h' → Q v h') :
    r_law_second (fun _ h' => Q .non h') Q (fun _ _ => False) (fun _ _ => False) (fun C v _ h' => X C v h') (startV ["tray", "houses", "way", "at", "things", "found", "spot", "sizes", "last", "kept"] vs) h := by
  obtain ⟨t, g, n, ws⟩ := p
  obtain ⟨rfl, T, hn, ok⟩ := q
  have sm := ok.small
  have hml := ok.most
  have hpos := ok.pos
  have fin : ∀ (us : Rooms) a bs h', Nest h' a bs (thsV us) → WorldOk us → Tray h' t g (n + 20) → (∀ c ∈ a :: bs, c ≠ t ∧ c ≠ g) → Q (.ref a) h' := fun us a bs h' N ok2 T2 nt => by
    refine gd.nest N ?_
    have e : (thsV us).map Val.lst = us.map houseV := by simp [thsV, thV, houseV]
    rw [e]
    exact hp _ _ ⟨us, rfl, ok2, T2.same (hdelL_out fun z => (nt t z).1 rfl) (hdelL_out fun z => (nt g z).2 rfl)⟩
  show r_law_second _ _ _ _ _ [some (.ref t), some (.lst (ws.map houseV)), none, none, none, none, none, none, none, none] h
  unfold r_law_second
  walk_at "zgo"
  refine c_law_draw T (by omega) (by decide) (by decide) fun w h1 w0 w1 T1 kp1 => ?_
  walk_at "zgo"
  rw [List.length_map]
  refine c_law_draw T1 (by omega) (by omega) (by omega) fun at' h2 a0 a1 T2 kp2 => ?_
  walk_at "zgo"
  refine lc_inv (fun k acc h5 => ∃ bs, NestB h2 h5 bs (thsV (ws.take k)) ∧ acc = bs.map Val.ref) ⟨[], NestB.zero, rfl⟩ ?_
  rintro k acc h5 ⟨bs, B, rfl⟩
  refine ⟨trivial, fun hk => ?_, fun z hz3 => ?_⟩
  rotate_left
  · obtain ⟨hs, hhs, rfl⟩ := map_get hz3
    unfold houseV
    walk_at "zgo"
    refine i_newO fun b hb => ?_
    refine ⟨by have := B.len; simp [thsV] at this ⊢; omega, bs ++ [b], ?_, by simp⟩
    rw [List.take_succ, hhs]
    have := B.app hb (hs.map Thing.v)
    simpa [thsV, thV] using this
  rw [List.length_map] at hk
  rw [List.take_of_length_le hk] at B
  refine i_newO fun a ha => ?_
  have N := B.top ha
  have nt : ∀ c ∈ a :: bs, c ≠ t ∧ c ≠ g := fun c hc => by
    have hf : h2 c = none := by
      rcases List.mem_cons.mp hc with rfl | hc
      · exact (B.out ha).2
      · exact B.fresh c hc
    obtain ⟨ne, gs, b, fold, c2, ht, hg, r⟩ := T2
    exact ⟨fun z => (by subst z; rw [ht] at hf; cases hf), fun z => (by subst z; rw [hg] at hf; cases hf)⟩
  have T3 : Tray (hup h5 a (.lst (bs.map Val.ref))) t g (n + 2) := by
    refine Tray.hup (Tray.same (h := h2) (T2.more (by omega)) (B.keep t fun z => (nt t (List.mem_cons_of_mem _ z)).1 rfl) (B.keep g fun z => (nt g (List.mem_cons_of_mem _ z)).2 rfl)) (nt a (by simp)).1 (nt a (by simp)).2
  have hbl : bs.length = ws.length := by have := N.len; simpa [thsV] using this
  have hat : at'.toNat < ws.length := by omega
  have hw : ws[at'.toNat]? = some ws[at'.toNat] := List.getElem?_eq_getElem hat
  have hx : (thsV ws)[at'.toNat]? = some (thV ws[at'.toNat]) := by unfold thsV; rw [List.getElem?_map, hw]; rfl
  obtain ⟨b, hb, hbv, hba⟩ := N.at hx
  have hbm := List.mem_of_getElem? hb
  have hl12 := ok.house _ (List.getElem_mem hat)
  generalize hup h5 a (.lst (bs.map Val.ref)) = h6 at *
  have eat : at' = (at'.toNat : Int) := by omega
  have ixb : L2.atI (bs.map Val.ref) at' = some (.ref b) := atI_toNat a0 (N.val hb)
  have nb := nt b (by simp [hbm])
  walk_at "zgo"
  by_cases c0 : w = 0
  · walk_at "zgo"
    refine i_ixR N.top ixb ?_
    have dv : Dv h6 (.ref b) (houseD ws[at'.toNat]) := .ref hbv (dvs_map Thing.dv _)
    have lay := house_lay ws[at'.toNat]
    have ex : ∀ hs, ws[at'.toNat] = hs → ws[at'.toNat]? = some hs := fun hs e => by rw [hw, e]
    cases ehs : ws[at'.toNat] with
    | nil =>
      rw [ehs] at dv
      walk_at "zgo"
      refine i_newF ?_
      refine i_neNil0 dv ?_
      walk_at "zgo"
      exact fin ws a bs h6 N ok (T3.more (by omega)) nt
    | cons th ths =>
      have e0 := ex _ ehs
      rw [ehs] at dv lay hbv hl12
      walk_at "zgo"
      refine i_newF ?_
      refine i_neNil dv lay (by decide) ?_
      walk_at "zgo"
      refine i_ixR N.top ixb ?_
      walk_at "zgo"
      have hvl : (thV (th :: ths)).length = (th :: ths).length := by simp [thV]
      rw [hvl]
      refine c_law_draw T3 (by omega) (by simp) (by simp at hl12 ⊢; omega) fun sp h7 s0 s1 T4 kp4 => ?_
      have N4 : Nest h7 a bs (thsV ws) := N.keep fun c hc => kp4 c (nt c hc).1 (nt c hc).2
      have hbv4 : h7 b = some (.lst (thV (th :: ths))) := by rw [kp4 b nb.1 nb.2]; exact hbv
      walk_at "zgo"
      refine i_newF ?_
      walk_at "zgo"
      refine c_law_draw T4 (by omega) (by decide) (by decide) fun r h8 r0 r1 T5 kp5 => ?_
      have N5 : Nest h8 a bs (thsV ws) := N4.keep fun c hc => kp5 c (nt c hc).1 (nt c hc).2
      have hbv5 : h8 b = some (.lst (thV (th :: ths))) := by rw [kp5 b nb.1 nb.2]; exact hbv4
      obtain ⟨nw, en, hnw⟩ : ∃ nw : Thing, L2.atI [Val.tup [.str "stone"], Val.tup [.str "maker"], Val.tup [.str "box", .int 0]] r = some nw.v ∧ (nw = .stone ∨ nw = .maker ∨ nw = .box 0) := by
        have : r = 0 ∨ r = 1 ∨ r = 2 := by omega
        rcases this with rfl | rfl | rfl
        · exact ⟨.stone, rfl, .inl rfl⟩
        · exact ⟨.maker, rfl, .inr (.inl rfl)⟩
        · exact ⟨.box 0, rfl, .inr (.inr rfl)⟩
      refine i_ixL en ?_
      walk_at "zgo"
      refine i_ixR N5.top ixb ?_
      walk_at "zgo"
      refine i_setL hbv5 (ixN_of s0 (by rw [hvl]; exact s1)) ?_
      walk_at "zgo"
      have eset : (thV (th :: ths)).set sp.toNat nw.v = thV ((th :: ths).set sp.toNat nw) := by unfold thV; rw [List.map_set]
      rw [eset]
      have N6 := N5.inner hb (thV ((th :: ths).set sp.toNat nw))
      rw [show (thsV ws).set at'.toNat (thV ((th :: ths).set sp.toNat nw)) = thsV (ws.set at'.toNat ((th :: ths).set sp.toNat nw)) by unfold thsV; rw [List.map_set]] at N6
      refine fin _ a bs _ N6 (ok.put e0 (by rw [List.length_set]; exact Nat.le_refl _) (by rw [List.length_set]; exact hl12) fun x hx => ?_) ((T5.hup nb.1 nb.2).more (by omega)) nt
      rcases List.mem_or_eq_of_mem_set hx with hx | rfl
      · exact .inl hx
      · exact .inr hnw
  by_cases c1 : w = 1
  · walk_at "zgo"
    refine i_lenR N.top ?_
    walk_at "zgo"
    rw [List.length_map, hbl]
    by_cases c8 : (ws.length : Int) < 8
    · walk_at "zgo"
      refine i_tyL N.top ?_
      walk_at "zgo"
      refine i_newO fun nb' hnb => ?_
      obtain ⟨n1, n2⟩ := T3.new hnb
      have n3 : nb' ≠ a := fun z => N.fresh hnb (by rw [z]; simp)
      walk_at "zgo"
      refine i_append (by rw [hup_ne n3.symm]; exact N.top) (by rw [List.length_map, hbl]; omega) ?_
      walk_at "zgo"
      have N6 := N.app (xs := []) hnb
      rw [show thsV ws ++ [[]] = thsV (ws ++ [[]]) by simp [thsV, thV]] at N6
      refine fin (ws ++ [[]]) a (bs ++ [nb']) _ N6 (ok.grow (by simp) (by simp; omega) (fun us hu => ?_) (fun j us hj => ⟨us, ?_, Nat.le_refl _⟩) (fun us hu x hx => ?_)) (((T3.hup n1 n2).hup (nt a (by simp)).1 (nt a (by simp)).2).more (by omega)) fun c hc => ?_
      · rcases List.mem_append.mp hu with hu | hu
        · exact ok.house us hu
        · simp at hu; subst hu; simp
      · have hj2 := (List.getElem?_eq_some_iff.mp hj).1
        rw [List.getElem?_append_left hj2]
        exact hj
      · rcases List.mem_append.mp hu with hu | hu
        · exact .inl ⟨us, hu, hx⟩
        · simp at hu; subst hu; simp at hx
      · rcases List.mem_cons.mp hc with rfl | hc
        · exact nt c (by simp)
        · rcases List.mem_append.mp hc with hc | hc
          · exact nt c (by simp [hc])
          · simp at hc; subst hc; exact ⟨n1, n2⟩
    · walk_at "zgo"
      exact fin ws a bs h6 N ok (T3.more (by omega)) nt
  by_cases c2 : w = 2
  · walk_at "zgo"
    refine i_ixR N.top ixb ?_
    refine i_tyL hbv ?_
    walk_at "zgo"
    refine i_newF ?_
    walk_at "zgo"
    refine i_ixR N.top ixb ?_
    walk_at "zgo"
    have hvl : (thV ws[at'.toNat]).length = ws[at'.toNat].length := by simp [thV]
    rw [hvl]
    have go : ∀ hs : List Thing, ws[at'.toNat].length ≤ hs.length → hs.length ≤ 12 → (∀ x ∈ hs, x ∈ ws[at'.toNat] ∨ x = .stone ∨ x = .maker ∨ x = .box 0) → Q (.ref a) (hup h6 b (.lst (thV hs))) := fun hs l1 l2 hx => by
      have N6 := N.inner hb (thV hs)
      rw [show (thsV ws).set at'.toNat (thV hs) = thsV (ws.set at'.toNat hs) by unfold thsV; rw [List.map_set]] at N6
      exact fin _ a bs _ N6 (ok.put hw l1 l2 hx) ((T3.hup nb.1 nb.2).more (by omega)) nt
    by_cases c12 : (ws[at'.toNat].length : Int) < 12
    · rw [decide_eq_true c12]
      refine i_rep (k := 1) (.lst _) (by decide) (by decide) (by decide) (i_newF ?_)
      walk_at "zgo"
      refine i_extend hbv (.lst _) (by rw [hvl]; simp; omega) ?_
      walk_at "zgo"
      have z := go (ws[at'.toNat] ++ [.stone]) (by simp) (by simp; omega) fun x hm => by
        rcases List.mem_append.mp hm with hm | hm
        · exact .inl hm
        · simp at hm; exact .inr (.inl hm)
      rw [show thV (ws[at'.toNat] ++ [.stone]) = thV ws[at'.toNat] ++ (List.replicate (1 : Int).toNat [Val.tup [.str "stone"]]).flatten by simp [thV]; rfl] at z
      exact z
    · rw [decide_eq_false c12]
      refine i_rep (k := 0) (.lst _) (by decide) (by decide) (by decide) (i_newF ?_)
      walk_at "zgo"
      refine i_extend hbv (.lst _) (by rw [hvl]; simp; omega) ?_
      walk_at "zgo"
      have z := go ws[at'.toNat] (Nat.le_refl _) hl12 fun x hx => .inl hx
      rw [show thV ws[at'.toNat] = thV ws[at'.toNat] ++ (List.replicate (0 : Int).toNat [Val.tup [.str "stone"]]).flatten by simp] at z
      exact z
  by_cases c3 : w = 3
  · walk_at "zgo"
    refine i_itsR N.top ?_
    refine lc_inv (fun k acc h7 => h7 = h6 ∧ acc = natsV ((ws.take k).map List.length)) ⟨rfl, rfl⟩ ?_
    rintro k acc h7 ⟨rfl, rfl⟩
    refine ⟨N.top, fun hk => ?_, fun z hz3 => ?_⟩
    rotate_left
    · obtain ⟨bk, hbk, rfl⟩ := map_get hz3
      have hkl : k < ws.length := by rw [← hbl]; exact (List.getElem?_eq_some_iff.mp hbk).1
      have hwk : ws[k]? = some ws[k] := List.getElem?_eq_getElem hkl
      have hvk := N.each k bk (thV ws[k]) hbk (by unfold thsV; rw [List.getElem?_map, hwk]; rfl)
      walk_at "zgo"
      refine ⟨by simp [natsV]; omega, rfl, ?_⟩
      rw [List.take_succ, hwk, List.map_append]
      simp [natsV, thV]
    rw [List.length_map, hbl] at hk
    rw [List.take_of_length_le hk]
    refine i_newF ?_
    walk_at "zgo"
    refine i_lenR N.top ?_
    walk_at "zgo"
    rw [List.length_map, hbl]
    have hlast : ws.length - 1 < ws.length := by omega
    have elast : ((ws.length : Int) - 1) = ((ws.length - 1 : Nat) : Int) := by omega
    have hb2 : bs[ws.length - 1]? = some (bs[ws.length - 1]'(by omega)) := List.getElem?_eq_getElem (by omega)
    have eb : bs[at'.toNat]'(by omega) = b := by
      have := List.getElem?_eq_getElem (l := bs) (i := at'.toNat) (by omega)
      rw [hb] at this
      exact (Option.some.inj this).symm
    have n1 : L2.atI (natsV (ws.map List.length)) at' = some (.int (ws[at'.toNat].length : Int)) := atI_toNat a0 (by unfold natsV; rw [List.getElem?_map, List.getElem?_map, hw]; rfl)
    have n2 : L2.atI (natsV (ws.map List.length)) ((ws.length : Int) - 1) = some (.int (ws[ws.length - 1].length : Int)) := by
      rw [elast]
      exact L2.atI_nat (by unfold natsV; rw [List.getElem?_map, List.getElem?_map, List.getElem?_eq_getElem hlast]; rfl)
    walk_at "zgo"
    refine i_ixL n1 ?_
    walk_at "zgo"
    refine i_ixL n2 ?_
    refine i_eqDI ?_
    by_cases ceq : (ws[at'.toNat].length : Int) = (ws[ws.length - 1].length : Int)
    · walk_at "zgo"
      refine i_ixR N.top ixb ?_
      walk_at "zgo"
      refine i_ixR N.top (by rw [elast]; exact L2.atI_nat (N.val hb2)) ?_
      walk_at "zgo"
      refine i_setL N.top (ixN_of a0 (by rw [List.length_map, hbl]; exact a1)) ?_
      walk_at "zgo"
      refine i_setL hup_same (ixN_of (by omega) (by rw [List.length_set, List.length_map, hbl]; omega)) ?_
      rw [hup_hup]
      walk_at "zgo"
      have e1 : (((ws.length : Int) - 1).toNat) = ws.length - 1 := by omega
      rw [e1]
      have hi : at'.toNat < bs.length := by omega
      have hj : ws.length - 1 < bs.length := by omega
      have eset : ((bs.map Val.ref).set at'.toNat (.ref (bs[ws.length - 1]'hj))).set (ws.length - 1) (.ref b) = ((bs.set at'.toNat (bs[ws.length - 1]'hj)).set (ws.length - 1) (bs[at'.toNat]'hi)).map Val.ref := by
        rw [List.map_set, List.map_set, eb]
      rw [eset]
      have ndN := List.nodup_cons.mp N.nd
      have N6 : Nest (hup h7 a (.lst (((bs.set at'.toNat (bs[ws.length - 1]'hj)).set (ws.length - 1) (bs[at'.toNat]'hi)).map Val.ref))) a ((bs.set at'.toNat (bs[ws.length - 1]'hj)).set (ws.length - 1) (bs[at'.toNat]'hi)) (thsV ((ws.set at'.toNat ws[ws.length - 1]).set (ws.length - 1) ws[at'.toNat])) := by
        refine Nest.outer (by simp [thsV, hbl]) (fun k c xs e1 e2 => ?_) (List.nodup_cons.mpr ⟨fun z => ?_, swap_nodup hi hj ndN.2⟩)
        · rw [swap_get hi hj] at e1
          unfold thsV at e2
          rw [List.getElem?_map, swap_get hat hlast] at e2
          exact N.each _ c xs e1 (by unfold thsV; rw [List.getElem?_map]; exact e2)
        · rcases List.mem_or_eq_of_mem_set z with z | z
          · rcases List.mem_or_eq_of_mem_set z with z | z
            · exact ndN.1 z
            · exact ndN.1 (z ▸ List.getElem_mem hj)
          · exact ndN.1 (z ▸ List.getElem_mem hi)
      refine fin _ a _ _ N6 (ok.grow (by simp) (by simpa using hml) (fun us hu => ?_) (fun k us hk2 => ?_) (fun us hu x hx2 => ?_)) ((T3.hup (nt a (by simp)).1 (nt a (by simp)).2).more (by omega)) fun c hc => ?_
      · rcases List.mem_or_eq_of_mem_set hu with hu | rfl
        · rcases List.mem_or_eq_of_mem_set hu with hu | rfl
          · exact ok.house us hu
          · exact ok.house _ (List.getElem_mem hlast)
        · exact hl12
      · have hk3 := (List.getElem?_eq_some_iff.mp hk2).1
        rw [swap_get hat hlast]
        have ek := (List.getElem?_eq_some_iff.mp hk2).2
        split
        · rename_i c
          subst c
          exact ⟨_, hw, by rw [← ek]; omega⟩
        · split
          · rename_i c
            subst c
            exact ⟨_, List.getElem?_eq_getElem hlast, by rw [← ek]; omega⟩
          · exact ⟨us, hk2, Nat.le_refl _⟩
      · rcases List.mem_or_eq_of_mem_set hu with hu | rfl
        · rcases List.mem_or_eq_of_mem_set hu with hu | rfl
          · exact .inl ⟨us, hu, hx2⟩
          · exact .inl ⟨_, List.getElem_mem hlast, hx2⟩
        · exact .inl ⟨_, List.getElem_mem hat, hx2⟩
      · rcases List.mem_cons.mp hc with rfl | hc
        · exact nt c (by simp)
        · rcases List.mem_or_eq_of_mem_set hc with hc | rfl
          · rcases List.mem_or_eq_of_mem_set hc with hc | rfl
            · exact nt c (by simp [hc])
            · exact nt _ (List.mem_cons_of_mem _ (List.getElem_mem hj))
          · exact nt _ (List.mem_cons_of_mem _ (List.getElem_mem hi))
    · walk_at "zgo"
      exact fin ws a bs h7 N ok (T3.more (by omega)) nt
  walk_at "zgo"
  exact fin ws a bs h6 N ok (T3.more (by omega)) nt
/-! LK3 -/


theorem RefD.v_inj {a b : RefD} (h : a.v = b.v) : a = b := by
  cases a <;> cases b <;> simp only [RefD.v, Val.tup.injEq, List.cons.injEq, Val.str.injEq, Val.int.injEq] at h
  · rw [h.2.1, h.2.2.1]
  · exact absurd h.1 (by decide +kernel)
  · exact absurd h.1 (by decide +kernel)
  · rw [h.2.1, h.2.2.1, h.2.2.2.1]
theorem Thing.v_inj {a b : Thing} (h : a.v = b.v) : a = b := by
  cases a <;> cases b <;> simp only [Thing.v, Val.tup.injEq, List.cons.injEq, Val.str.injEq, Val.int.injEq] at h <;>
    first
    | rfl
    | exact absurd h.1 (by decide +kernel)
    | rw [h.2.1]
    | rw [map_inj' (fun _ _ => RefD.v_inj) h.2.1]
    | rw [RefD.v_inj h.2.1]
theorem map_cong_inj {α β γ : Type} {f : α → β} {g : β → γ} {k : α → γ} {xs ys : List α} (e : xs.map f = ys.map f) (h1 : ∀ x ∈ xs, g (f x) = k x) (h2 : ∀ x ∈ ys, g (f x) = k x) : xs.map k = ys.map k := by
  have e2 : (xs.map f).map g = (ys.map f).map g := by rw [e]
  rw [List.map_map, List.map_map] at e2
  rw [← List.map_congr_left h1, ← List.map_congr_left h2]
  exact e2
theorem wsT_inj {a b : Rooms} (sa : SmT a) (sb : SmT b) (na : a ≠ []) (nb : b ≠ []) (h : wsT a = wsT b) : a = b := by
  have e : wsL a = wsL b := by rw [← tl_wsT, ← tl_wsT, h]
  have e2 : a.map hsL = b.map hsL := by rw [← ws_split na, ← ws_split nb, e]
  have e3 := map_cong_inj (g := houseP) (k := fun hs => hs.map Thing.v) e2 (fun hs hm => houseP_back fun th ht => (sa.refs hs hm th ht).2) (fun hs hm => houseP_back fun th ht => (sb.refs hs hm th ht).2)
  exact map_inj' (fun x y e => map_inj' (fun _ _ => Thing.v_inj) e) e3
theorem plVs_iff {xs : List Val} : plVs xs = true ↔ ∀ x ∈ xs, plV x = true := by
  induction xs with
  | nil => simp [plVs]
  | cons d ds ih => simp [plVs, ih]
theorem RefD.plV (r : RefD) : Z.plV r.v = true := by cases r <;> rfl
theorem Thing.plV (t : Thing) : Z.plV t.v = true := by
  cases t with
  | box w => rfl
  | shelf rs =>
    have : plVs (rs.map RefD.v) = true := plVs_iff.mpr fun x hx => by
      obtain ⟨r, _, rfl⟩ := List.mem_map.mp hx
      exact r.plV
    simp [Thing.v, Z.plV, plVs, this]
  | relay r =>
    have := r.plV
    simp [Thing.v, Z.plV, plVs, this]
  | maker => rfl
  | stone => rfl
theorem rooms_plV (ws : Rooms) : plV (roomsV ws) = true := plVs_iff.mpr fun x hx => by
  obtain ⟨hs, _, rfl⟩ := List.mem_map.mp hx
  exact plVs_iff.mpr fun y hy => by
    obtain ⟨t, _, rfl⟩ := List.mem_map.mp hy
    exact t.plV
theorem roomsV_inj {a b : Rooms} (h : roomsV a = roomsV b) : a = b := by
  simp only [roomsV, Val.lst.injEq] at h
  exact map_inj' (fun x y e => by simp only [houseV, Val.lst.injEq] at e; exact map_inj' (fun _ _ => Thing.v_inj) e) h
theorem i_neDB {i j : Bool} {h : Hh} {Q : KQ} (q : Q (.bl (!decide (i = j))) h) : wNeD (.bl i) (.bl j) h Q := by
  refine ⟨_, _, .bl i, .bl j, (LayD.bool 1 _).shaped (by decide), (LayD.bool 1 _).shaped (by decide), ?_⟩
  have : PyData.eqv (.bool i) (.bool j) = decide (i = j) := by cases i <;> cases j <;> rfl
  rw [this]
  exact q
def r_law_k03 (cl : Str → Addr) : WS :=
  wSeq (wAsg (wCall fs_law_tray [] (wCons (wVar 0) (wNil))) (wgName 1))
  (wSeq (wFor (wiR1 (wOp wAdd (wC (.int 1)) (wCB cLen (wCons (wSl wSlL (wVar 0) (wNoPart) (wPart (wC (.int 6)))) (wNil))))) (wgName 2)
  (wSeq (wAsg (wCall fs_law_world_v1 [] (wCons (wVar 1) (wNil))) (wgName 3))
  (wSeq (wAsg (wCall fs_law_second [] (wCons (wVar 1) (wCons (wVar 3) (wNil)))) (wgName 4))
  (wSeq (wAsg (wMake (cl "World") (fs_World___init__ cl) [] (wCons (wLc (wiL (wVar 3)) (tg1 5) wYes (wCB cList (wCons (wVar 5) (wNil))) [5]) (wNil))) (wgName 6))
  (wSeq (wAsg (wMake (cl "World") (fs_World___init__ cl) [] (wCons (wLc (wiL (wVar 4)) (tg1 5) wYes (wCB cList (wCons (wVar 5) (wNil))) [5]) (wNil))) (wgName 7))
  (wSeq (wIf (wOr (wNot (wTv (wCall (fs_law_things_right cl) [] (wCons (wVar 1) (wCons (wVar 6) (wCons (wVar 3) (wNil))))))) (wNot (wTv (wCall (fs_law_houses_right cl) [] (wCons (wVar 1) (wCons (wVar 6) (wCons (wVar 3) (wNil)))))))) (wRet (wC (.bl false))) (wNext))
  (wSeq (wAsg (wOp wEqD (wVar 3) (wVar 4)) (wgName 8))
  (wSeq (wIf (wOr (wNot (wTv (wCall (fs_law_alike 5) [] (wCons (wOp (wEqO (cl "World") (fs_World___eq__ cl)) (wVar 6) (wVar 7)) (wCons (wVar 8) (wNil)))))) (wNot (wTv (wCall (fs_law_alike 5) [] (wCons (wOp (wNeO (cl "World") (fs_World___eq__ cl)) (wVar 7) (wVar 6)) (wCons (wNotV (wVar 8)) (wNil))))))) (wRet (wC (.bl false))) (wNext))
  (wSeq (wIf (wNot (wTv (wCall (fs_law_alike 5) [] (wCons (wOp (wInO (cl "World") "houses_kept" (fs_World___eq__ cl)) (wVar 6) (wLst (wCons (wVar 7) (wNil)))) (wCons (wVar 8) (wNil)))))) (wRet (wC (.bl false))) (wNext))
  (wSeq (wIf (wOr (wNot (wTv (wCall (fs_law_told_v1 cl) [] (wCons (wVar 6) (wCons (wVar 3) (wNil)))))) (wOr (wNot (wTv (wCall (fs_law_told_v1 cl) [] (wCons (wVar 7) (wCons (wVar 4) (wNil)))))) (wTv (wOp wNeS (wCB (cLenO (cl "World") (fs_World___len__ cl)) (wCons (wVar 7) (wNil))) (wCB cLen (wCons (wVar 4) (wNil))))))) (wRet (wC (.bl false))) (wNext))
  (wIf (wOr (wNot (wTv (wCB cIsi (wCons (wCB (cStrO (cl "World") (fs_World___str__ cl)) (wCons (wVar 6) (wNil))) (wCons (wC (.ty "str")) (wNil)))))) (wTv (wOp wNeD (wOp wEqS (wCB (cStrO (cl "World") (fs_World___str__ cl)) (wCons (wVar 6) (wNil))) (wCB (cStrO (cl "World") (fs_World___str__ cl)) (wCons (wVar 7) (wNil)))) (wVar 8)))) (wRet (wC (.bl false))) (wNext))))))))))))
  (wRet (wC (.bl true))))

theorem rd_law_k03 {cl : Str → Addr} {vs h Q} (q : preL vs h) (hp : ∀ h', Q (.bl true) h') :
    r_law_k03 cl (fun _ h' => Q .non h') Q (fun _ _ => False) (fun _ _ => False) (fun _ _ _ _ => False) (startV ["script", "tray", "k", "houses", "others", "things", "world", "second", "same"] vs) h := by
  obtain ⟨ns, rfl, hl, rfl⟩ := q
  show r_law_k03 _ _ _ _ _ _ [some (.scr (ns.map Val.int)), none, none, none, none, none, none, none, none] _
  unfold r_law_k03
  walk_at "zgo"
  refine c_law_tray hl fun t g h0 _ _ T0 kp0 => ?_
  walk_at "zgo"
  refine ⟨_, .scr _, i_newF ?_⟩
  have hcut : (cut (List.map Val.int ns) none (some 6)).length ≤ 8 := by
    unfold cut
    rw [List.length_take]
    have : HT.sIx (List.map Val.int ns).length (List.map Val.int ns).length (some 6) ≤ 8 := by
      simp [HT.sIx]; omega
    omega
  revert hcut
  generalize cut (List.map Val.int ns) none (some 6) = sc8
  intro hcut
  walk_at "zgo"
  refine for_inv (fun i ρ h' => (∃ a b c d e f g1 : Option Val, ρ = [some (.scr (ns.map Val.int)), some (.ref t), a, b, c, d, e, f, g1]) ∧ Tray h' t g (0 + 4000 * i) ∧ i ≤ 10) ⟨⟨_, _, _, _, _, _, _, rfl⟩, T0.more (by omega), by omega⟩ ?_
  rintro i ρ h1 ⟨⟨v1, v2, v3, v4, v5, v6, v7, rfl⟩, T1, hi⟩
  refine ⟨trivial, fun _ => ?_, fun z hz => ?_⟩
  · walk_at "zgo"
    exact hp _
  obtain ⟨hi', rfl⟩ := rng_get hz
  have hi2 : i < 10 := by omega
  walk_at "zgo"
  refine c_law_world_v1 T1 (by omega) fun ws h2 ok T2 kp2 => ?_
  walk_at "zgo"
  refine c_law_second T2 (by omega) ok fun us h3 ok2 T3 => ?_
  have sm := ok.smT
  have sml := ok.small
  have hml := ok.most
  have sm2 := ok2.smT
  have sml2 := ok2.small
  have hml2 := ok2.most
  have n1 : ws ≠ [] := fun z => by have := ok.pos; rw [z] at this; simp at this
  have n2 : us ≠ [] := fun z => by have := ok2.pos; rw [z] at this; simp at this
  walk_at "zgo"
  refine lc_inv (fun k acc h5 => h5 = h3 ∧ acc = (ws.take k).map houseV) ⟨rfl, by simp⟩ ?_
  rintro k acc h5 ⟨rfl, rfl⟩
  refine ⟨trivial, fun hk => ?_, fun z hz3 => ?_⟩
  rotate_left
  · obtain ⟨hs, hhs, rfl⟩ := map_get hz3
    unfold houseV
    walk_at "zgo"
    refine i_newF ?_
    refine ⟨by simp; omega, rfl, ?_⟩
    rw [List.take_succ, hhs, List.map_append]
    rfl
  rw [List.length_map] at hk
  rw [List.take_of_length_le hk]
  clear hk
  refine i_newF ?_
  walk_at "zgo"
  refine c_World_mk (HsAt.frozen ws) sml ok.good ?_
  walk_at "zgo"
  generalize hH : h5 = h2' at *
  refine lc_inv (fun k acc h5 => h5 = h2' ∧ acc = (us.take k).map houseV) ⟨rfl, by simp⟩ ?_
  rintro k acc h5 ⟨rfl, rfl⟩
  refine ⟨trivial, fun hk => ?_, fun z hz3 => ?_⟩
  rotate_left
  · obtain ⟨hs, hhs, rfl⟩ := map_get hz3
    unfold houseV
    walk_at "zgo"
    refine i_newF ?_
    refine ⟨by simp; omega, rfl, ?_⟩
    rw [List.take_succ, hhs, List.map_append]
    rfl
  rw [List.length_map] at hk
  rw [List.take_of_length_le hk]
  clear hk
  refine i_newF ?_
  walk_at "zgo"
  refine c_World_mk (HsAt.frozen us) sml2 ok2.good ?_
  walk_at "zgo"
  refine c_law_things_right T3 (by omega) ok fun h6 T4 => ?_
  walk_at "zgo"
  refine c_law_houses_right T4 (by omega) ok fun h7 T5 => ?_
  walk_at "zgo"
  refine ⟨_, _, roomsV_dv ws, roomsV_dv us, (rooms_lay ws).shaped (by decide), (rooms_lay us).shaped (by decide), ?_⟩
  rw [rooms_eqv]
  walk_at "zgo"
  refine ⟨_, _, .obj _ _, .obj _ _, c_World_eq ⟨_, rfl, ?_⟩⟩
  walk_at "zgo"
  have comm : decide (us = ws) = decide (ws = us) := decide_eq_decide.mpr eq_comm
  have key : ∀ (G : KQ), G (.bl (decide (ws = us))) h7 → wInO (cl "World") "houses_kept" (fs_World___eq__ cl) (worldV cl ws) (.lst [worldV cl us]) h7 G := fun G q =>
    ⟨roomsV ws, roomsV us, rfl, rfl, rooms_plV _, rooms_plV _, fun e => by rw [decide_eq_true (roomsV_inj e)] at q; exact q, c_World_eq ⟨_, rfl, by rw [comm]; exact q⟩⟩
  refine c_law_alike (.bl _ _) ?_
  walk_at "zgo"
  refine ⟨_, _, .obj _ _, .obj _ _, c_World_eq ⟨_, rfl, ?_⟩⟩
  rw [comm]
  walk_at "zgo"
  refine c_law_alike (.bl _ _) ?_
  walk_at "zgo"
  refine i_newF ?_
  refine key _ ?_
  walk_at "zgo"
  refine c_law_alike (.bl _ _) ?_
  walk_at "zgo"
  refine c_law_told_v1 (HsL.rooms ws) sml ok.pures ?_
  walk_at "zgo"
  refine c_law_told_v1 (HsL.rooms us) sml2 ok2.pures ?_
  walk_at "zgo"
  refine c_World_len sml2 ⟨_, rfl, ⟨by omega, by omega⟩, ?_⟩
  unfold roomsV
  walk_at "zgo"
  rw [List.length_map]
  walk_at "zgo"
  refine ⟨_, _, rfl, .obj _ _, ?_⟩
  refine c_World_str sm ⟨_, rfl, ?_⟩
  walk_at "zgo"
  refine ⟨_, _, rfl, .obj _ _, ?_⟩
  refine c_World_str sm ⟨_, rfl, ?_⟩
  walk_at "zgo"
  refine ⟨_, _, rfl, .obj _ _, ?_⟩
  refine c_World_str sm2 ⟨_, rfl, ?_⟩
  walk_at "zgo"
  have etx : decide (wsT ws = wsT us) = decide (ws = us) := decide_eq_decide.mpr ⟨fun e => wsT_inj sm sm2 n1 n2 e, fun e => by rw [e]⟩
  rw [etx]
  refine i_neDB ?_
  rw [decide_eq_true rfl]
  walk_at "zgo"
  exact ⟨⟨_, _, _, _, _, _, _, rfl⟩, T5.more (by omega), by omega⟩
/-!  -/
end Z
/-! HEAD -/
namespace Z
open PySem PySem.Spec L2
namespace K03
structure Tx (w : World) (K : Fr) (mg : Str → Option Value) : Prop where
  c_World : Cls K (cl K "World")
  er_NoHouse : ErrC K (cl K "NoHouse")
  er_NoThing : ErrC K (cl K "NoThing")
  g_ValueError : mg "ValueError" = none
  g_bool : mg "bool" = none
  g_int : mg "int" = none
  g_isinstance : mg "isinstance" = none
  g_len : mg "len" = none
  g_list : mg "list" = none
  g_max : mg "max" = none
  g_range : mg "range" = none
  g_str : mg "str" = none
  g_sum : mg "sum" = none
  g_tuple : mg "tuple" = none
  gl_NoAsker : mg "NoAsker" = some (.ref (cl K "NoAsker"))
  gl_NoHouse : mg "NoHouse" = some (.ref (cl K "NoHouse"))
  gl_NoLog : mg "NoLog" = some (.ref (cl K "NoLog"))
  gl_NoRow : mg "NoRow" = some (.ref (cl K "NoRow"))
  gl_NoScript : mg "NoScript" = some (.ref (cl K "NoScript"))
  gl_NoStep : mg "NoStep" = some (.ref (cl K "NoStep"))
  gl_NoText : mg "NoText" = some (.ref (cl K "NoText"))
  gl_NoThing : mg "NoThing" = some (.ref (cl K "NoThing"))
  gl_NoWorld : mg "NoWorld" = some (.ref (cl K "NoWorld"))
  gl_NotSettled : mg "NotSettled" = some (.ref (cl K "NotSettled"))
  gl_SentError : mg "SentError" = some (.ref (cl K "SentError"))
  gl_TooMany : mg "TooMany" = some (.ref (cl K "TooMany"))
  gl_Twice : mg "Twice" = some (.ref (cl K "Twice"))
  i_MOST_HOUSES : ∃ t, mg "MOST_HOUSES" = some (.int 8 t)
  i_MOST_REFS : ∃ t, mg "MOST_REFS" = some (.int 12 t)
  i_MOST_THINGS : ∃ t, mg "MOST_THINGS" = some (.int 12 t)
  kf_NoHouse__NoAsker : PySem.W.kitOne K (.ref (cl K "NoHouse")) (.ref (cl K "NoAsker")) = some false
  kf_NoHouse__NoLog : PySem.W.kitOne K (.ref (cl K "NoHouse")) (.ref (cl K "NoLog")) = some false
  kf_NoHouse__NoRow : PySem.W.kitOne K (.ref (cl K "NoHouse")) (.ref (cl K "NoRow")) = some false
  kf_NoHouse__NoScript : PySem.W.kitOne K (.ref (cl K "NoHouse")) (.ref (cl K "NoScript")) = some false
  kf_NoHouse__NoStep : PySem.W.kitOne K (.ref (cl K "NoHouse")) (.ref (cl K "NoStep")) = some false
  kf_NoHouse__NoText : PySem.W.kitOne K (.ref (cl K "NoHouse")) (.ref (cl K "NoText")) = some false
  kf_NoHouse__NoThing : PySem.W.kitOne K (.ref (cl K "NoHouse")) (.ref (cl K "NoThing")) = some false
  kf_NoHouse__NoWorld : PySem.W.kitOne K (.ref (cl K "NoHouse")) (.ref (cl K "NoWorld")) = some false
  kf_NoHouse__NotSettled : PySem.W.kitOne K (.ref (cl K "NoHouse")) (.ref (cl K "NotSettled")) = some false
  kf_NoHouse__TooMany : PySem.W.kitOne K (.ref (cl K "NoHouse")) (.ref (cl K "TooMany")) = some false
  kf_NoHouse__Twice : PySem.W.kitOne K (.ref (cl K "NoHouse")) (.ref (cl K "Twice")) = some false
  kf_NoThing__NoAsker : PySem.W.kitOne K (.ref (cl K "NoThing")) (.ref (cl K "NoAsker")) = some false
  kf_NoThing__NoHouse : PySem.W.kitOne K (.ref (cl K "NoThing")) (.ref (cl K "NoHouse")) = some false
  kf_NoThing__NoLog : PySem.W.kitOne K (.ref (cl K "NoThing")) (.ref (cl K "NoLog")) = some false
  kf_NoThing__NoRow : PySem.W.kitOne K (.ref (cl K "NoThing")) (.ref (cl K "NoRow")) = some false
  kf_NoThing__NoScript : PySem.W.kitOne K (.ref (cl K "NoThing")) (.ref (cl K "NoScript")) = some false
  kf_NoThing__NoStep : PySem.W.kitOne K (.ref (cl K "NoThing")) (.ref (cl K "NoStep")) = some false
  kf_NoThing__NoText : PySem.W.kitOne K (.ref (cl K "NoThing")) (.ref (cl K "NoText")) = some false
  kf_NoThing__NoWorld : PySem.W.kitOne K (.ref (cl K "NoThing")) (.ref (cl K "NoWorld")) = some false
  kf_NoThing__NotSettled : PySem.W.kitOne K (.ref (cl K "NoThing")) (.ref (cl K "NotSettled")) = some false
  kf_NoThing__TooMany : PySem.W.kitOne K (.ref (cl K "NoThing")) (.ref (cl K "TooMany")) = some false
  kf_NoThing__Twice : PySem.W.kitOne K (.ref (cl K "NoThing")) (.ref (cl K "Twice")) = some false
  kt_NoHouse__SentError : PySem.W.kitOne K (.ref (cl K "NoHouse")) (.ref (cl K "SentError")) = some true
  kt_NoThing__SentError : PySem.W.kitOne K (.ref (cl K "NoThing")) (.ref (cl K "SentError")) = some true
  ky_NoHouse__ValueError : PySem.W.kitOne K (.ref (cl K "NoHouse")) (.type "ValueError") = some true
  ky_NoThing__ValueError : PySem.W.kitOne K (.ref (cl K "NoThing")) (.type "ValueError") = some true
  n_World_houses_kept : NoAttr K (cl K "World") "houses_kept"
  ne_World : neoB (cl K "World") K = true
  xm_NoHouse__NoHouse : PySem.W.exmOne K (.ref (cl K "NoHouse")) (.ref (cl K "NoHouse")) = some true
  xm_NoThing__NoThing : PySem.W.exmOne K (.ref (cl K "NoThing")) (.ref (cl K "NoThing")) = some true
section
variable {P : Program} {w : World} {K : Fr} {mg : Str → Option Value} {base : Heap} {f : Addr} {fd : FuncData}
theorem ok_World___eq__ (T : Tx w K mg) (F : FunD K "__eq__" "World.__eq__" (defArgs s_World___eq__) (defBody s_World___eq__) (defScope s_World___eq__) [] [] f fd) : FnOk P w K mg base (L2.CX P w) 3 f fd ["self", "other"] (lSp K (fs_World___eq__ (cl K))) := by
  refine zdef F sc_World___eq__ (fun p vs h q => by first | exact congrArg List.length q | exact congrArg List.length q.1 | (obtain ⟨_, _⟩ := p; first | exact congrArg List.length q | exact congrArg List.length q.1) | (obtain ⟨_, _, _⟩ := p; first | exact congrArg List.length q | exact congrArg List.length q.1) | (obtain ⟨_, _, _, _⟩ := p; first | exact congrArg List.length q | exact congrArg List.length q.1) | (obtain ⟨_, _, _, _, _⟩ := p; first | exact congrArg List.length q | exact congrArg List.length q.1)) fun cdv A outer s H E hr => ⟨r_World___eq__ (cl K), ?_, fun p vs h Q X g q hp hx => rd_World___eq__ g q hp⟩
  exact zb_one (zs_ret (zcmp (op_eqD hr.units) (s_eqD) (zfld T.c_World T.n_World_houses_kept (zv 0)) (zfld T.c_World T.n_World_houses_kept (zv 1)) (nomark _)))
theorem ok_is_there (T : Tx w K mg) (F : FunD K "is_there" "is_there" (defArgs s_is_there) (defBody s_is_there) (defScope s_is_there) [] [] f fd) : FnOk P w K mg base (L2.CX P w) 3 f fd ["houses", "ref"] (lSp K (fs_is_there)) := by
  refine zdef F sc_is_there (fun p vs h q => by first | exact congrArg List.length q | exact congrArg List.length q.1 | (obtain ⟨_, _⟩ := p; first | exact congrArg List.length q | exact congrArg List.length q.1) | (obtain ⟨_, _, _⟩ := p; first | exact congrArg List.length q | exact congrArg List.length q.1) | (obtain ⟨_, _, _, _⟩ := p; first | exact congrArg List.length q | exact congrArg List.length q.1) | (obtain ⟨_, _, _, _, _⟩ := p; first | exact congrArg List.length q | exact congrArg List.length q.1)) fun cdv A outer s H E hr => ⟨r_is_there, ?_, fun p vs h Q X g q hp hx => rd_is_there g q hp⟩
  exact zb_cons (zs_if (ztw (zwor (ztc op_ne (s_neS) (zix ix_seq s_ix (zv 1) (zint) (fun _ _ => rfl)) (zstr) (nomark _)) (zwor (ztc op_lt (s_lt) (zix ix_seq s_ix (zv 1) (zint) (fun _ _ => rfl)) (zint) (nomark _)) (zw1 (ztc op_ge (s_ge) (zix ix_seq s_ix (zv 1) (zint) (fun _ _ => rfl)) (zcallB call_len s_len rfl T.g_len PySem.boot_len (za_cons (zv 0) (za_nil))) (nomark _)))))) (zb_one (zs_ret (zbl))) (zb_nil))
      (zb_one (zs_ret (zchain op_le op_lt (s_le) (s_lt) (zint) (zix ix_seq s_ix (zv 1) (zint) (fun _ _ => rfl)) (zcallB call_len s_len rfl T.g_len PySem.boot_len (za_cons (zix ix_seq s_ix (zv 0) (zix ix_seq s_ix (zv 1) (zint) (fun _ _ => rfl)) (fun _ _ => rfl)) (za_nil))))))
theorem ok_refs_of (T : Tx w K mg) (F : FunD K "refs_of" "refs_of" (defArgs s_refs_of) (defBody s_refs_of) (defScope s_refs_of) [] [] f fd) : FnOk P w K mg base (L2.CX P w) 3 f fd ["thing"] (lSp K (fs_refs_of)) := by
  refine zdef F sc_refs_of (fun p vs h q => by first | exact congrArg List.length q | exact congrArg List.length q.1 | (obtain ⟨_, _⟩ := p; first | exact congrArg List.length q | exact congrArg List.length q.1) | (obtain ⟨_, _, _⟩ := p; first | exact congrArg List.length q | exact congrArg List.length q.1) | (obtain ⟨_, _, _, _⟩ := p; first | exact congrArg List.length q | exact congrArg List.length q.1) | (obtain ⟨_, _, _, _, _⟩ := p; first | exact congrArg List.length q | exact congrArg List.length q.1)) fun cdv A outer s H E hr => ⟨r_refs_of, ?_, fun p vs h Q X g q hp hx => rd_refs_of g q hp⟩
  exact zb_cons (zs_if (ztc op_eq (s_eqS) (zix ix_seq s_ix (zv 0) (zint) (fun _ _ => rfl)) (zstr) (nomark _)) (zb_one (zs_ret (zcallTy call_list_of s_list rfl T.g_list (by decide +kernel) (za_cons (zix ix_seq s_ix (zv 0) (zint) (fun _ _ => rfl)) (za_nil))))) (zb_nil))
      (zb_cons (zs_if (ztc op_eq (s_eqS) (zix ix_seq s_ix (zv 0) (zint) (fun _ _ => rfl)) (zstr) (nomark _)) (zb_one (zs_ret (zlst (za_cons (zix ix_seq s_ix (zv 0) (zint) (fun _ _ => rfl)) (za_nil))))) (zb_nil))
      (zb_one (zs_ret (zlst (za_nil)))))
theorem ok_is_good (T : Tx w K mg) (F : FunD K "is_good" "is_good" (defArgs s_is_good) (defBody s_is_good) (defScope s_is_good) [] [] f fd)
    (G_is_there : Fn P w K mg base "is_there" 3 ["houses", "ref"] [] (fs_is_there))
    (G_refs_of : Fn P w K mg base "refs_of" 3 ["thing"] [] (fs_refs_of)) : FnOk P w K mg base (L2.CX P w) 4 f fd ["houses", "things"] (lSp K (fs_is_good)) := by
  refine zdef F sc_is_good (fun p vs h q => by first | exact congrArg List.length q | exact congrArg List.length q.1 | (obtain ⟨_, _⟩ := p; first | exact congrArg List.length q | exact congrArg List.length q.1) | (obtain ⟨_, _, _⟩ := p; first | exact congrArg List.length q | exact congrArg List.length q.1) | (obtain ⟨_, _, _, _⟩ := p; first | exact congrArg List.length q | exact congrArg List.length q.1) | (obtain ⟨_, _, _, _, _⟩ := p; first | exact congrArg List.length q | exact congrArg List.length q.1)) fun cdv A outer s H E hr => ⟨r_is_good, ?_, fun p vs h Q X g q hp hx => rd_is_good g q hp⟩
  exact zb_cons (zs_if (ztc op_gt (s_gt) (zcallB call_len s_len rfl T.g_len PySem.boot_len (za_cons (zv 1) (za_nil))) (zglobI rfl T.i_MOST_THINGS) (nomark _)) (zb_one (zs_ret (zbl))) (zb_nil))
      (zb_cons (zs_for psd rfl (zi_list (zv 1)) (zg_name (i := 2) sc_is_good.nd rfl (Or.inl rfl))
      (zb_cons (zs_set (i := 3) sc_is_good.nd rfl (Or.inl rfl) (zcall tkd G_refs_of (hr.mono (by decide)) rfl (za_cons (zv 2) (za_nil))))
      (zb_cons (zs_if (ztc op_gt (s_gt) (zcallB call_len s_len rfl T.g_len PySem.boot_len (za_cons (zv 3) (za_nil))) (zglobI rfl T.i_MOST_REFS) (nomark _)) (zb_one (zs_ret (zbl))) (zb_nil))
      (zb_one (zs_for psd rfl (zi_list (zv 3)) (zg_name (i := 4) sc_is_good.nd rfl (Or.inl rfl))
      (zb_one (zs_if (ztnot (ztv (zcall tkd G_is_there (hr.mono (by decide)) rfl (za_cons (zv 0) (za_cons (zv 4) (za_nil)))))) (zb_one (zs_ret (zbl))) (zb_nil))))))))
      (zb_one (zs_ret (zbl))))
theorem ok_World___init__ (T : Tx w K mg) (F : FunD K "__init__" "World.__init__" (defArgs s_World___init__) (defBody s_World___init__) (defScope s_World___init__) [] [] f fd)
    (G_is_good : Fn P w K mg base "is_good" 4 ["houses", "things"] [] (fs_is_good))
    (E_NoWorld : Ex P w K mg base "NoWorld" (cl K "NoWorld")) : FnOk P w K mg base (L2.CX P w) 5 f fd ["self", "houses"] (lSp K (fs_World___init__ (cl K))) := by
  refine zdef F sc_World___init__ (fun p vs h q => by first | exact congrArg List.length q | exact congrArg List.length q.1 | (obtain ⟨_, _⟩ := p; first | exact congrArg List.length q | exact congrArg List.length q.1) | (obtain ⟨_, _, _⟩ := p; first | exact congrArg List.length q | exact congrArg List.length q.1) | (obtain ⟨_, _, _, _⟩ := p; first | exact congrArg List.length q | exact congrArg List.length q.1) | (obtain ⟨_, _, _, _, _⟩ := p; first | exact congrArg List.length q | exact congrArg List.length q.1)) fun cdv A outer s H E hr => ⟨r_World___init__ (cl K), ?_, fun p vs h Q X g q hp hx => rd_World___init__ g q hp hx⟩
  exact zb_cons (zs_if (ztw (zwor (ztc op_lt (s_lt) (zcallB call_len s_len rfl T.g_len PySem.boot_len (za_cons (zv 1) (za_nil))) (zint) (nomark _)) (zw1 (ztc op_gt (s_gt) (zcallB call_len s_len rfl T.g_len PySem.boot_len (za_cons (zv 1) (za_nil))) (zglobI rfl T.i_MOST_HOUSES) (nomark _))))) (zb_one (zs_raise tkd rfl E_NoWorld (hr.mono (by decide)) rfl (znon))) (zb_nil))
      (zb_cons (zs_for psd rfl (zi_list (zv 1)) (zg_name (i := 2) sc_World___init__.nd rfl (Or.inl rfl))
      (zb_one (zs_if (ztnot (ztv (zcall tkd G_is_good (hr.mono (by decide)) rfl (za_cons (zv 1) (za_cons (zv 2) (za_nil)))))) (zb_one (zs_raise tkd rfl E_NoWorld (hr.mono (by decide)) rfl (znon))) (zb_nil))))
      (zb_one (zs_fld T.c_World T.n_World_houses_kept (zv 0) (zlc (own := [("things", 2)]) tg1_ok rfl sc_World___init__.nd (zi_list (zv 1)) (blkOk_by (own := [("things", 2)]) (N := ["self", "houses", "things"]) (sc := defScope s_World___init__) (by decide +kernel)) (fun _ _ _ _ _ => pg_name (i := 2) sc_World___init__.nd rfl (Or.inl rfl)) (fun _ _ _ _ _ => zts_nil) (fun _ _ _ _ _ => zcallTy call_list_of s_list rfl T.g_list (by decide +kernel) (za_cons (zv 2) (za_nil)))))))
theorem ok_World___len__ (T : Tx w K mg) (F : FunD K "__len__" "World.__len__" (defArgs s_World___len__) (defBody s_World___len__) (defScope s_World___len__) [] [] f fd) : FnOk P w K mg base (L2.CX P w) 3 f fd ["self"] (lSp K (fs_World___len__ (cl K))) := by
  refine zdef F sc_World___len__ (fun p vs h q => by first | exact congrArg List.length q | exact congrArg List.length q.1 | (obtain ⟨_, _⟩ := p; first | exact congrArg List.length q | exact congrArg List.length q.1) | (obtain ⟨_, _, _⟩ := p; first | exact congrArg List.length q | exact congrArg List.length q.1) | (obtain ⟨_, _, _, _⟩ := p; first | exact congrArg List.length q | exact congrArg List.length q.1) | (obtain ⟨_, _, _, _, _⟩ := p; first | exact congrArg List.length q | exact congrArg List.length q.1)) fun cdv A outer s H E hr => ⟨r_World___len__ (cl K), ?_, fun p vs h Q X g q hp hx => rd_World___len__ g q hp⟩
  exact zb_one (zs_ret (zcallB call_len s_len rfl T.g_len PySem.boot_len (za_cons (zfld T.c_World T.n_World_houses_kept (zv 0)) (za_nil))))
theorem ok_ref_text (T : Tx w K mg) (F : FunD K "ref_text" "ref_text" (defArgs s_ref_text) (defBody s_ref_text) (defScope s_ref_text) [] [] f fd) : FnOk P w K mg base (L2.CX P w) 3 f fd ["ref"] (lSp K (fs_ref_text)) := by
  refine zdef F sc_ref_text (fun p vs h q => by first | exact congrArg List.length q | exact congrArg List.length q.1 | (obtain ⟨_, _⟩ := p; first | exact congrArg List.length q | exact congrArg List.length q.1) | (obtain ⟨_, _, _⟩ := p; first | exact congrArg List.length q | exact congrArg List.length q.1) | (obtain ⟨_, _, _, _⟩ := p; first | exact congrArg List.length q | exact congrArg List.length q.1) | (obtain ⟨_, _, _, _, _⟩ := p; first | exact congrArg List.length q | exact congrArg List.length q.1)) fun cdv A outer s H E hr => ⟨r_ref_text, ?_, fun p vs h Q X g q hp hx => rd_ref_text g q hp⟩
  exact zb_one (zs_ret (zjoined (zpj_cons (zfmt (zix ix_seq s_ix (zv 0) (zint) (fun _ _ => rfl))) (zpj_cons (zstr) (zpj_cons (zfmt (zix ix_seq s_ix (zv 0) (zint) (fun _ _ => rfl))) (zpj_nil))))))
theorem ok_thing_text (T : Tx w K mg) (F : FunD K "thing_text" "thing_text" (defArgs s_thing_text) (defBody s_thing_text) (defScope s_thing_text) [] [] f fd)
    (G_ref_text : Fn P w K mg base "ref_text" 3 ["ref"] [] (fs_ref_text)) : FnOk P w K mg base (L2.CX P w) 4 f fd ["thing"] (lSp K (fs_thing_text)) := by
  refine zdef F sc_thing_text (fun p vs h q => by first | exact congrArg List.length q | exact congrArg List.length q.1 | (obtain ⟨_, _⟩ := p; first | exact congrArg List.length q | exact congrArg List.length q.1) | (obtain ⟨_, _, _⟩ := p; first | exact congrArg List.length q | exact congrArg List.length q.1) | (obtain ⟨_, _, _, _⟩ := p; first | exact congrArg List.length q | exact congrArg List.length q.1) | (obtain ⟨_, _, _, _, _⟩ := p; first | exact congrArg List.length q | exact congrArg List.length q.1)) fun cdv A outer s H E hr => ⟨r_thing_text, ?_, fun p vs h Q X g q hp hx => rd_thing_text g q hp⟩
  exact zb_cons (zs_if (ztc op_eq (s_eqS) (zix ix_seq s_ix (zv 0) (zint) (fun _ _ => rfl)) (zstr) (nomark _)) (zb_one (zs_ret (zjoined (zpj_cons (zstr) (zpj_cons (zfmt (zix ix_seq s_ix (zv 0) (zint) (fun _ _ => rfl))) (zpj_nil)))))) (zb_nil))
      (zb_cons (zs_if (ztc op_eq (s_eqS) (zix ix_seq s_ix (zv 0) (zint) (fun _ _ => rfl)) (zstr) (nomark _)) (zb_one (zs_ret (zop op_add_str s_addS (zstr) (zbm PySem.F.plainAttrs_str PySem.F.slot_str_join PySem.F.type_str_join mt_join s_join (zstr) (za_cons (zlc (own := [("ref", 1)]) tg1_ok rfl sc_thing_text.nd (zi_tup (zix ix_seq s_ix (zv 0) (zint) (fun _ _ => rfl))) (blkOk_by (own := [("ref", 1)]) (N := ["thing", "ref"]) (sc := defScope s_thing_text) (by decide +kernel)) (fun _ _ _ _ _ => pg_name (i := 1) sc_thing_text.nd rfl (Or.inl rfl)) (fun _ _ _ _ _ => zts_nil) (fun _ _ _ _ _ => zcall takes0 G_ref_text (hr.mono (by decide)) rfl (za_cons (zv 1) (za_nil)))) (za_nil)))))) (zb_nil))
      (zb_cons (zs_if (ztc op_eq (s_eqS) (zix ix_seq s_ix (zv 0) (zint) (fun _ _ => rfl)) (zstr) (nomark _)) (zb_one (zs_ret (zop op_add_str s_addS (zstr) (zcall tkd G_ref_text (hr.mono (by decide)) rfl (za_cons (zix ix_seq s_ix (zv 0) (zint) (fun _ _ => rfl)) (za_nil)))))) (zb_nil))
      (zb_cons (zs_if (ztc op_eq (s_eqS) (zix ix_seq s_ix (zv 0) (zint) (fun _ _ => rfl)) (zstr) (nomark _)) (zb_one (zs_ret (zstr))) (zb_nil))
      (zb_one (zs_ret (zstr))))))
theorem ok_house_text (T : Tx w K mg) (F : FunD K "house_text" "house_text" (defArgs s_house_text) (defBody s_house_text) (defScope s_house_text) [] [] f fd)
    (G_thing_text : Fn P w K mg base "thing_text" 4 ["thing"] [] (fs_thing_text)) : FnOk P w K mg base (L2.CX P w) 5 f fd ["things"] (lSp K (fs_house_text)) := by
  refine zdef F sc_house_text (fun p vs h q => by first | exact congrArg List.length q | exact congrArg List.length q.1 | (obtain ⟨_, _⟩ := p; first | exact congrArg List.length q | exact congrArg List.length q.1) | (obtain ⟨_, _, _⟩ := p; first | exact congrArg List.length q | exact congrArg List.length q.1) | (obtain ⟨_, _, _, _⟩ := p; first | exact congrArg List.length q | exact congrArg List.length q.1) | (obtain ⟨_, _, _, _, _⟩ := p; first | exact congrArg List.length q | exact congrArg List.length q.1)) fun cdv A outer s H E hr => ⟨r_house_text, ?_, fun p vs h Q X g q hp hx => rd_house_text g q hp⟩
  exact zb_cons (zs_if (ztc op_eq (s_eqS) (zcallB call_len s_len rfl T.g_len PySem.boot_len (za_cons (zv 0) (za_nil))) (zint) (nomark _)) (zb_one (zs_ret (zstr))) (zb_nil))
      (zb_one (zs_ret (zbm PySem.F.plainAttrs_str PySem.F.slot_str_join PySem.F.type_str_join mt_join s_join (zstr) (za_cons (zlc (own := [("thing", 1)]) tg1_ok rfl sc_house_text.nd (zi_list (zv 0)) (blkOk_by (own := [("thing", 1)]) (N := ["things", "thing"]) (sc := defScope s_house_text) (by decide +kernel)) (fun _ _ _ _ _ => pg_name (i := 1) sc_house_text.nd rfl (Or.inl rfl)) (fun _ _ _ _ _ => zts_nil) (fun _ _ _ _ _ => zcall takes0 G_thing_text (hr.mono (by decide)) rfl (za_cons (zv 1) (za_nil)))) (za_nil)))))
theorem ok_World___str__ (T : Tx w K mg) (F : FunD K "__str__" "World.__str__" (defArgs s_World___str__) (defBody s_World___str__) (defScope s_World___str__) [] [] f fd)
    (G_house_text : Fn P w K mg base "house_text" 5 ["things"] [] (fs_house_text)) : FnOk P w K mg base (L2.CX P w) 6 f fd ["self"] (lSp K (fs_World___str__ (cl K))) := by
  refine zdef F sc_World___str__ (fun p vs h q => by first | exact congrArg List.length q | exact congrArg List.length q.1 | (obtain ⟨_, _⟩ := p; first | exact congrArg List.length q | exact congrArg List.length q.1) | (obtain ⟨_, _, _⟩ := p; first | exact congrArg List.length q | exact congrArg List.length q.1) | (obtain ⟨_, _, _, _⟩ := p; first | exact congrArg List.length q | exact congrArg List.length q.1) | (obtain ⟨_, _, _, _, _⟩ := p; first | exact congrArg List.length q | exact congrArg List.length q.1)) fun cdv A outer s H E hr => ⟨r_World___str__ (cl K), ?_, fun p vs h Q X g q hp hx => rd_World___str__ g q hp⟩
  exact zb_one (zs_ret (zbm PySem.F.plainAttrs_str PySem.F.slot_str_join PySem.F.type_str_join mt_join s_join (zstr) (za_cons (zlc (own := [("things", 1)]) tg1_ok rfl sc_World___str__.nd (zi_list (zfld T.c_World T.n_World_houses_kept (zv 0))) (blkOk_by (own := [("things", 1)]) (N := ["self", "things"]) (sc := defScope s_World___str__) (by decide +kernel)) (fun _ _ _ _ _ => pg_name (i := 1) sc_World___str__.nd rfl (Or.inl rfl)) (fun _ _ _ _ _ => zts_nil) (fun _ _ _ _ _ => zcall takes0 G_house_text (hr.mono (by decide)) rfl (za_cons (zv 1) (za_nil)))) (za_nil))))
theorem ok_law_alike (T : Tx w K mg) (F : FunD K "_law_alike" "_law_alike" (defArgs s_law_alike) (defBody s_law_alike) (defScope s_law_alike) [] [] f fd) (gx : mg "_law_alike" = some (.ref f)) : ∀ d : Nat, FnOk P w K mg base (L2.CX P w) (3 + d) f fd ["found", "due"] (lSp K (fs_law_alike d))
  | 0 => ok_bot.mono (Nat.zero_le _)
  | d + 1 => by
    have G_law_alike : Fn P w K mg base "_law_alike" (3 + d) ["found", "due"] [] (fs_law_alike d) := ⟨_, _, [], [], ok_law_alike T F gx d, gx, F.kp, .nil, fun _ => rels_nil.mpr rfl, FunD.bindsN F fun _ _ _ _ _ _ us hl => match us, hl with | [_, _], _ => rfl⟩
    refine zdef (k := 3 + d) F sc_law_alike (fun p vs h q => by first | exact congrArg List.length q | exact congrArg List.length q.1 | (obtain ⟨_, _⟩ := p; first | exact congrArg List.length q | exact congrArg List.length q.1) | (obtain ⟨_, _, _⟩ := p; first | exact congrArg List.length q | exact congrArg List.length q.1) | (obtain ⟨_, _, _, _⟩ := p; first | exact congrArg List.length q | exact congrArg List.length q.1) | (obtain ⟨_, _, _, _, _⟩ := p; first | exact congrArg List.length q | exact congrArg List.length q.1)) fun cdv A outer s H E hr => ⟨r_law_alike d, ?_, fun p vs h Q X g q hp hx => rd_law_alike g q hp⟩
    exact zb_cons (zs_if (ztisN (zv 1)) (zb_one (zs_ret (zisN (zv 0)))) (zb_nil))
      (zb_cons (zs_if (ztv (zcallB call_isi s_isi rfl T.g_isinstance (by decide +kernel) (za_cons (zv 1) (za_cons (ztyp rfl T.g_bool (by decide +kernel)) (za_nil))))) (zb_one (zs_ret (zand (zcallB call_isi s_isi rfl T.g_isinstance (by decide +kernel) (za_cons (zv 0) (za_cons (ztyp rfl T.g_bool (by decide +kernel)) (za_nil)))) (zone (zcmp op_eq (s_eqS) (zv 0) (zv 1) (nomark _)))))) (zb_nil))
      (zb_cons (zs_if (ztv (zcallB call_isi s_isi rfl T.g_isinstance (by decide +kernel) (za_cons (zv 1) (za_cons (ztyp rfl T.g_int (by decide +kernel)) (za_nil))))) (zb_one (zs_ret (zand (zcallB call_isi s_isi rfl T.g_isinstance (by decide +kernel) (za_cons (zv 0) (za_cons (ztyp rfl T.g_int (by decide +kernel)) (za_nil)))) (zand (znot (zcallB call_isi s_isi rfl T.g_isinstance (by decide +kernel) (za_cons (zv 0) (za_cons (ztyp rfl T.g_bool (by decide +kernel)) (za_nil))))) (zone (zcmp op_eq (s_eqS) (zv 0) (zv 1) (nomark _))))))) (zb_nil))
      (zb_cons (zs_if (ztv (zcallB call_isi s_isi rfl T.g_isinstance (by decide +kernel) (za_cons (zv 1) (za_cons (ztyp rfl T.g_str (by decide +kernel)) (za_nil))))) (zb_one (zs_ret (zand (zcallB call_isi s_isi rfl T.g_isinstance (by decide +kernel) (za_cons (zv 0) (za_cons (ztyp rfl T.g_str (by decide +kernel)) (za_nil)))) (zone (zcmp op_eq (s_eqS) (zv 0) (zv 1) (nomark _)))))) (zb_nil))
      (zb_cons (zs_if (ztw (zwor (ztc op_ne (s_neS) (zcallB call_isi s_isi rfl T.g_isinstance (by decide +kernel) (za_cons (zv 0) (za_cons (ztyp rfl T.g_list (by decide +kernel)) (za_nil)))) (zcallB call_isi s_isi rfl T.g_isinstance (by decide +kernel) (za_cons (zv 1) (za_cons (ztyp rfl T.g_list (by decide +kernel)) (za_nil)))) (nomark _)) (zw1 (ztc op_ne (s_neS) (zcallB call_isi s_isi rfl T.g_isinstance (by decide +kernel) (za_cons (zv 0) (za_cons (ztyp rfl T.g_tuple (by decide +kernel)) (za_nil)))) (zcallB call_isi s_isi rfl T.g_isinstance (by decide +kernel) (za_cons (zv 1) (za_cons (ztyp rfl T.g_tuple (by decide +kernel)) (za_nil)))) (nomark _))))) (zb_one (zs_ret (zbl))) (zb_nil))
      (zb_cons (zs_if (ztc op_ne (s_neS) (zcallB call_len s_len rfl T.g_len PySem.boot_len (za_cons (zv 0) (za_nil))) (zcallB call_len s_len rfl T.g_len PySem.boot_len (za_cons (zv 1) (za_nil))) (nomark _)) (zb_one (zs_ret (zbl))) (zb_nil))
      (zb_cons (zs_for psd rfl (zi_r1 rfl T.g_range (zcallB call_len s_len rfl T.g_len PySem.boot_len (za_cons (zv 1) (za_nil)))) (zg_name (i := 2) sc_law_alike.nd rfl (Or.inl rfl))
      (zb_one (zs_if (ztnot (ztv (zcall tkd G_law_alike (hr.mono (by omega)) rfl (za_cons (zix ix_seq s_ix (zv 0) (zv 2) (fun _ _ => rfl)) (za_cons (zix ix_seq s_ix (zv 1) (zv 2) (fun _ _ => rfl)) (za_nil)))))) (zb_one (zs_ret (zbl))) (zb_nil))))
      (zb_one (zs_ret (zbl)))))))))
theorem ok_law_draw (T : Tx w K mg) (F : FunD K "_law_draw" "_law_draw" (defArgs s_law_draw) (defBody s_law_draw) (defScope s_law_draw) [] [] f fd) : FnOk P w K mg base (L2.CX P w) 3 f fd ["tray", "many"] (lSp K (fs_law_draw)) := by
  refine zdef F sc_law_draw (fun p vs h q => by first | exact congrArg List.length q | exact congrArg List.length q.1 | (obtain ⟨_, _⟩ := p; first | exact congrArg List.length q | exact congrArg List.length q.1) | (obtain ⟨_, _, _⟩ := p; first | exact congrArg List.length q | exact congrArg List.length q.1) | (obtain ⟨_, _, _, _⟩ := p; first | exact congrArg List.length q | exact congrArg List.length q.1) | (obtain ⟨_, _, _, _, _⟩ := p; first | exact congrArg List.length q | exact congrArg List.length q.1)) fun cdv A outer s H E hr => ⟨r_law_draw, ?_, fun p vs h Q X g q hp hx => rd_law_draw g q hp⟩
  exact zb_cons (zs_while psd (ztw (zwand (ztc op_lt (s_lt) (zix ix_seq s_ix (zv 0) (zint) (fun _ _ => rfl)) (zint) (nomark _)) (zw1 (ztc (op_neD hr.units) (s_neD) (zix ix_seq s_ix (zv 0) (zint) (fun _ _ => rfl)) (zlst (za_nil)) (nomark _)))))
      (zb_one (zs_asg (zbm PySem.F.plainAttrs_list PySem.F.slot_list_pop PySem.F.type_list_pop mt_popAt s_popAt (zix ix_seq s_ix (zv 0) (zint) (fun _ _ => rfl)) (za_cons (zint) (za_nil))) (zg_sub (W0 := WF) s_setL set_list (zv 0) (zint)))))
      (zb_cons (zs_if (ztc op_ge (s_ge) (zix ix_seq s_ix (zv 0) (zint) (fun _ _ => rfl)) (zint) (nomark _)) (zb_cons (zs_set (i := 2) sc_law_draw.nd rfl (Or.inl rfl) (zop op_mod s_mod (zix ix_seq s_ix (zv 0) (zint) (fun _ _ => rfl)) (zv 1)))
      (zb_cons (zs_asg (zop op_fdivW s_divW (zix ix_seq s_ix (zv 0) (zint) (fun _ _ => rfl)) (zv 1)) (zg_sub (W0 := WF) s_setL set_list (zv 0) (zint)))
      (zb_one (zs_ret (zv 2))))) (zb_nil))
      (zb_cons (zs_asg (zop op_add s_add (zix ix_seq s_ix (zv 0) (zint) (fun _ _ => rfl)) (zint)) (zg_sub (W0 := WF) s_setL set_list (zv 0) (zint)))
      (zb_cons (zs_set (i := 3) sc_law_draw.nd rfl (Or.inl rfl) (zop op_mod s_mod (zop op_add s_add (zop op_mul s_mul (zop op_add s_add (zix ix_seq s_ix (zv 0) (zint) (fun _ _ => rfl)) (zint)) (zop op_pow s_pow (zop op_add s_add (zix ix_seq s_ix (zv 0) (zint) (fun _ _ => rfl)) (zint)) (zint))) (zop op_mul s_mul (zint) (zix ix_seq s_ix (zv 0) (zint) (fun _ _ => rfl)))) (zop op_sub s_sub (zop op_pow s_pow (zint) (zint)) (zint))))
      (zb_one (zs_ret (zop op_mod s_mod (zop op_fdivW s_divW (zop op_mod s_mod (zop op_pow s_pow (zv 3) (zint)) (zop op_add s_add (zop op_pow s_pow (zint) (zint)) (zint))) (zint)) (zv 1)))))))
theorem ok_law_great (T : Tx w K mg) (F : FunD K "_law_great" "_law_great" (defArgs s_law_great) (defBody s_law_great) (defScope s_law_great) [] [] f fd)
    (G_law_draw : Fn P w K mg base "_law_draw" 3 ["tray", "many"] [] (fs_law_draw)) : FnOk P w K mg base (L2.CX P w) 4 f fd ["tray"] (lSp K (fs_law_great)) := by
  refine zdef F sc_law_great (fun p vs h q => by first | exact congrArg List.length q | exact congrArg List.length q.1 | (obtain ⟨_, _⟩ := p; first | exact congrArg List.length q | exact congrArg List.length q.1) | (obtain ⟨_, _, _⟩ := p; first | exact congrArg List.length q | exact congrArg List.length q.1) | (obtain ⟨_, _, _, _⟩ := p; first | exact congrArg List.length q | exact congrArg List.length q.1) | (obtain ⟨_, _, _, _, _⟩ := p; first | exact congrArg List.length q | exact congrArg List.length q.1)) fun cdv A outer s H E hr => ⟨r_law_great, ?_, fun p vs h Q X g q hp hx => rd_law_great g q hp⟩
  exact zb_cons (zs_set (i := 1) sc_law_great.nd rfl (Or.inl rfl) (zcall tkd G_law_draw (hr.mono (by decide)) rfl (za_cons (zv 0) (za_cons (zop op_pow s_pow (zint) (zint)) (za_nil)))))
      (zb_cons (zs_for psd rfl (zi_r1 rfl T.g_range (zint)) (zg_name (i := 2) sc_law_great.nd rfl (Or.inl rfl))
      (zb_one (zs_set (i := 1) sc_law_great.nd rfl (Or.inl rfl) (zop op_add s_add (zop op_mul s_mul (zv 1) (zop op_pow s_pow (zint) (zint))) (zcall tkd G_law_draw (hr.mono (by decide)) rfl (za_cons (zv 0) (za_cons (zop op_pow s_pow (zint) (zint)) (za_nil))))))))
      (zb_one (zs_ret (zv 1))))
theorem ok_World_house (T : Tx w K mg) (F : FunD K "house" "World.house" (defArgs s_World_house) (defBody s_World_house) (defScope s_World_house) [] [] f fd)
    (E_NoHouse : Ex P w K mg base "NoHouse" (cl K "NoHouse")) : FnOk P w K mg base (L2.CX P w) 3 f fd ["self", "number"] (lSp K (fs_World_house (cl K))) := by
  refine zdef F sc_World_house (fun p vs h q => by first | exact congrArg List.length q | exact congrArg List.length q.1 | (obtain ⟨_, _⟩ := p; first | exact congrArg List.length q | exact congrArg List.length q.1) | (obtain ⟨_, _, _⟩ := p; first | exact congrArg List.length q | exact congrArg List.length q.1) | (obtain ⟨_, _, _, _⟩ := p; first | exact congrArg List.length q | exact congrArg List.length q.1) | (obtain ⟨_, _, _, _, _⟩ := p; first | exact congrArg List.length q | exact congrArg List.length q.1)) fun cdv A outer s H E hr => ⟨r_World_house (cl K), ?_, fun p vs h Q X g q hp hx => rd_World_house g q hp hx⟩
  exact zb_cons (zs_if (ztw (zwor (ztc op_lt (s_lt) (zv 1) (zint) (nomark _)) (zw1 (ztc op_ge (s_ge) (zv 1) (zcallB call_len s_len rfl T.g_len PySem.boot_len (za_cons (zfld T.c_World T.n_World_houses_kept (zv 0)) (za_nil))) (nomark _))))) (zb_one (zs_raise tkd rfl E_NoHouse (hr.mono (by decide)) rfl (zv 1))) (zb_nil))
      (zb_one (zs_ret (zcallTy call_list_of s_list rfl T.g_list (by decide +kernel) (za_cons (zix ix_seq s_ix (zfld T.c_World T.n_World_houses_kept (zv 0)) (zv 1) (fun _ _ => rfl)) (za_nil)))))
theorem ok_law_house_asked (T : Tx w K mg) (F : FunD K "_law_house_asked" "_law_house_asked" (defArgs s_law_house_asked) (defBody s_law_house_asked) (defScope s_law_house_asked) [] [] f fd)
    (G_World_house_kwnumber : MtK P w K mg base (cl K "World") "house" 3 ["self", "number"] 0 ["number"] [(.inr 0)] (fs_World_house (cl K))) : FnOk P w K mg base (L2.CX P w) 4 f fd ["world", "spot"] (lSp K (fs_law_house_asked (cl K))) := by
  refine zdef F sc_law_house_asked (fun p vs h q => by first | exact congrArg List.length q | exact congrArg List.length q.1 | (obtain ⟨_, _⟩ := p; first | exact congrArg List.length q | exact congrArg List.length q.1) | (obtain ⟨_, _, _⟩ := p; first | exact congrArg List.length q | exact congrArg List.length q.1) | (obtain ⟨_, _, _, _⟩ := p; first | exact congrArg List.length q | exact congrArg List.length q.1) | (obtain ⟨_, _, _, _, _⟩ := p; first | exact congrArg List.length q | exact congrArg List.length q.1)) fun cdv A outer s H E hr => ⟨r_law_house_asked (cl K), ?_, fun p vs h Q X g q hp hx => rd_law_house_asked g q hp⟩
  exact zb_cons (zs_set (i := 2) sc_law_house_asked.nd rfl (Or.inl rfl) (znon))
      (zb_cons (zs_set (i := 3) sc_law_house_asked.nd rfl (Or.inl rfl) (zlst (za_nil)))
      (zb_cons (zs_try_as rfl rfl sc_law_house_asked.nd (i := 4) rfl rfl ⟨rfl, by decide, .inl T.gl_NoHouse⟩ tkd (all_cons T.xm_NoHouse__NoHouse (all_nil)) (all_nil)
      (fun W0 pn0 xe0 tk0 ps0 => zb_one (zs_set (i := 2) sc_law_house_asked.nd rfl (Or.inl rfl) (zmethK0 tk0 T.c_World G_World_house_kwnumber (hr.mono (by decide)) (zv 0) (zk_cons (zv 1) (zk_nil)))))
      (fun ea eoe eC edd epn ehC ehz ehv => zb_one (zs_set (i := 3) sc_law_house_asked.nd rfl (Or.inl rfl) (zlst (za_cons (zxf ((all_cons (P := fun C => ErrC K C) T.er_NoHouse (all_nil)) eC ehC) ehz ehv (zv 4)) (za_cons (zerr_is ((all_cons (P := fun C => ErrC K C) T.er_NoHouse (all_nil)) eC ehC) ehz ehv rfl T.g_isinstance (za_cons (zv 4) (za_cons (zcls rfl T.gl_SentError) za_nil)) rfl ((all_cons (P := fun C => PySem.W.kitOne K (.ref C) (.ref (cl K "SentError")) = some true) T.kt_NoHouse__SentError (all_nil)) eC ehC)) (za_cons (zerr_is ((all_cons (P := fun C => ErrC K C) T.er_NoHouse (all_nil)) eC ehC) ehz ehv rfl T.g_isinstance (za_cons (zv 4) (za_cons (ztyp rfl T.g_ValueError (by decide +kernel)) za_nil)) rfl ((all_cons (P := fun C => PySem.W.kitOne K (.ref C) (.type "ValueError") = some true) T.ky_NoHouse__ValueError (all_nil)) eC ehC)) (za_cons (zerr_no ((all_cons (P := fun C => ErrC K C) T.er_NoHouse (all_nil)) eC ehC) ehz ehv rfl T.g_isinstance (zv 4) (.cons (zcls rfl T.gl_NoAsker) ((all_cons (P := fun C => PySem.W.kitOne K (.ref C) (.ref (cl K "NoAsker")) = some false) T.kf_NoHouse__NoAsker (all_nil)) eC ehC) (.cons (zcls rfl T.gl_NoLog) ((all_cons (P := fun C => PySem.W.kitOne K (.ref C) (.ref (cl K "NoLog")) = some false) T.kf_NoHouse__NoLog (all_nil)) eC ehC) (.cons (zcls rfl T.gl_NoRow) ((all_cons (P := fun C => PySem.W.kitOne K (.ref C) (.ref (cl K "NoRow")) = some false) T.kf_NoHouse__NoRow (all_nil)) eC ehC) (.cons (zcls rfl T.gl_NoScript) ((all_cons (P := fun C => PySem.W.kitOne K (.ref C) (.ref (cl K "NoScript")) = some false) T.kf_NoHouse__NoScript (all_nil)) eC ehC) (.cons (zcls rfl T.gl_NoStep) ((all_cons (P := fun C => PySem.W.kitOne K (.ref C) (.ref (cl K "NoStep")) = some false) T.kf_NoHouse__NoStep (all_nil)) eC ehC) (.cons (zcls rfl T.gl_NotSettled) ((all_cons (P := fun C => PySem.W.kitOne K (.ref C) (.ref (cl K "NotSettled")) = some false) T.kf_NoHouse__NotSettled (all_nil)) eC ehC) (.cons (zcls rfl T.gl_NoText) ((all_cons (P := fun C => PySem.W.kitOne K (.ref C) (.ref (cl K "NoText")) = some false) T.kf_NoHouse__NoText (all_nil)) eC ehC) (.cons (zcls rfl T.gl_NoThing) ((all_cons (P := fun C => PySem.W.kitOne K (.ref C) (.ref (cl K "NoThing")) = some false) T.kf_NoHouse__NoThing (all_nil)) eC ehC) (.cons (zcls rfl T.gl_NoWorld) ((all_cons (P := fun C => PySem.W.kitOne K (.ref C) (.ref (cl K "NoWorld")) = some false) T.kf_NoHouse__NoWorld (all_nil)) eC ehC) (.cons (zcls rfl T.gl_TooMany) ((all_cons (P := fun C => PySem.W.kitOne K (.ref C) (.ref (cl K "TooMany")) = some false) T.kf_NoHouse__TooMany (all_nil)) eC ehC) (.cons (zcls rfl T.gl_Twice) ((all_cons (P := fun C => PySem.W.kitOne K (.ref C) (.ref (cl K "Twice")) = some false) T.kf_NoHouse__Twice (all_nil)) eC ehC) (.nil)))))))))))) (by simp)) (za_nil)))))))))
      (zb_one (zs_ret (zlst (za_cons (zv 2) (za_cons (zv 3) (za_nil))))))))
theorem ok_law_houses_right (T : Tx w K mg) (F : FunD K "_law_houses_right" "_law_houses_right" (defArgs s_law_houses_right) (defBody s_law_houses_right) (defScope s_law_houses_right) [] [] f fd)
    (G_law_alike : Fn P w K mg base "_law_alike" 8 ["found", "due"] [] (fs_law_alike 5))
    (G_law_great : Fn P w K mg base "_law_great" 4 ["tray"] [] (fs_law_great))
    (G_law_house_asked : Fn P w K mg base "_law_house_asked" 4 ["world", "spot"] [] (fs_law_house_asked (cl K))) : FnOk P w K mg base (L2.CX P w) 9 f fd ["tray", "world", "houses"] (lSp K (fs_law_houses_right (cl K))) := by
  refine zdef F sc_law_houses_right (fun p vs h q => by first | exact congrArg List.length q | exact congrArg List.length q.1 | (obtain ⟨_, _⟩ := p; first | exact congrArg List.length q | exact congrArg List.length q.1) | (obtain ⟨_, _, _⟩ := p; first | exact congrArg List.length q | exact congrArg List.length q.1) | (obtain ⟨_, _, _, _⟩ := p; first | exact congrArg List.length q | exact congrArg List.length q.1) | (obtain ⟨_, _, _, _, _⟩ := p; first | exact congrArg List.length q | exact congrArg List.length q.1)) fun cdv A outer s H E hr => ⟨r_law_houses_right (cl K), ?_, fun p vs h Q X g q hp hx => rd_law_houses_right g q hp⟩
  exact zb_cons (zs_set (i := 3) sc_law_houses_right.nd rfl (Or.inl rfl) (zcall tkd G_law_great (hr.mono (by decide)) rfl (za_cons (zv 0) (za_nil))))
      (zb_cons (zs_set (i := 4) sc_law_houses_right.nd rfl (Or.inl rfl) (zcallB call_len s_len rfl T.g_len PySem.boot_len (za_cons (zv 2) (za_nil))))
      (zb_cons (zs_for psd rfl (zi_list (zlst (za_cons (zneg (zint)) (za_cons (zneg (zint)) (za_cons (zint) (za_cons (zop op_sub s_sub (zv 4) (zint)) (za_cons (zv 4) (za_cons (zop op_add s_add (zv 4) (zint)) (za_cons (zv 3) (za_cons (zop op_sub s_sub (zneg (zint)) (zv 3)) (za_nil))))))))))) (zg_name (i := 5) sc_law_houses_right.nd rfl (Or.inl rfl))
      (zb_cons (zs_asg (zcall tkd G_law_house_asked (hr.mono (by decide)) rfl (za_cons (zv 1) (za_cons (zv 5) (za_nil)))) (zg_unl rfl (zgs_cons (zg_name (i := 6) sc_law_houses_right.nd rfl (Or.inl rfl)) (zgs_cons (zg_name (i := 7) sc_law_houses_right.nd rfl (Or.inl rfl)) (zgs_nil)))))
      (zb_cons (zs_set (i := 8) sc_law_houses_right.nd rfl (Or.inl rfl) (zchain op_le op_lt (s_le) (s_lt) (zint) (zv 5) (zcallB call_len s_len rfl T.g_len PySem.boot_len (za_cons (zv 2) (za_nil)))))
      (zb_cons (zs_if (ztw (zwand (ztv (zv 8)) (zw1 (ztw (zwor (ztc (op_neD hr.units) (s_neD) (zv 7) (zlst (za_nil)) (nomark _)) (zw1 (ztnot (ztv (zcall tkd G_law_alike (hr.mono (by decide)) rfl (za_cons (zv 6) (za_cons (zix ix_seq s_ix (zv 2) (zv 5) (fun _ _ => rfl)) (za_nil)))))))))))) (zb_one (zs_ret (zbl))) (zb_nil))
      (zb_one (zs_if (ztw (zwand (ztnot (ztv (zv 8))) (zw1 (ztnot (ztv (zcall tkd G_law_alike (hr.mono (by decide)) rfl (za_cons (zv 7) (za_cons (zlst (za_cons (zv 5) (za_cons (zbl) (za_cons (zbl) (za_cons (zbl) (za_nil)))))) (za_nil))))))))) (zb_one (zs_ret (zbl))) (zb_nil)))))))
      (zb_one (zs_ret (zbl)))))
theorem ok_law_second (T : Tx w K mg) (F : FunD K "_law_second" "_law_second" (defArgs s_law_second) (defBody s_law_second) (defScope s_law_second) [] [] f fd)
    (G_law_draw : Fn P w K mg base "_law_draw" 3 ["tray", "many"] [] (fs_law_draw)) : FnOk P w K mg base (L2.CX P w) 4 f fd ["tray", "houses"] (lSp K (fs_law_second)) := by
  refine zdef F sc_law_second (fun p vs h q => by first | exact congrArg List.length q | exact congrArg List.length q.1 | (obtain ⟨_, _⟩ := p; first | exact congrArg List.length q | exact congrArg List.length q.1) | (obtain ⟨_, _, _⟩ := p; first | exact congrArg List.length q | exact congrArg List.length q.1) | (obtain ⟨_, _, _, _⟩ := p; first | exact congrArg List.length q | exact congrArg List.length q.1) | (obtain ⟨_, _, _, _, _⟩ := p; first | exact congrArg List.length q | exact congrArg List.length q.1)) fun cdv A outer s H E hr => ⟨r_law_second, ?_, fun p vs h Q X g q hp hx => rd_law_second g q hp⟩
  exact zb_cons (zs_set (i := 2) sc_law_second.nd rfl (Or.inl rfl) (zcall tkd G_law_draw (hr.mono (by decide)) rfl (za_cons (zv 0) (za_cons (zint) (za_nil)))))
      (zb_cons (zs_set (i := 3) sc_law_second.nd rfl (Or.inl rfl) (zcall tkd G_law_draw (hr.mono (by decide)) rfl (za_cons (zv 0) (za_cons (zcallB call_len s_len rfl T.g_len PySem.boot_len (za_cons (zv 1) (za_nil))) (za_nil)))))
      (zb_cons (zs_setLc (i := 5) (own := [("things", 4)]) tg1_ok rfl sc_law_second.nd rfl rfl (sw_true rfl rfl rfl (by decide +kernel)) (zi_list (zv 1)) (blkOk_by (own := [("things", 4)]) (N := ["tray", "houses", "way", "at", "things", "found", "spot", "sizes", "last", "kept"]) (sc := defScope s_law_second) (by decide +kernel)) (fun _ _ _ _ _ => pg_name (i := 4) sc_law_second.nd rfl (Or.inl rfl)) (fun _ _ _ _ _ => zts_nil) (fun _ _ _ _ _ => zcallTy call_list_of s_list rfl T.g_list (by decide +kernel) (za_cons (zv 4) (za_nil))))
      (zb_cons (zs_if (ztw (zwand (ztc op_eq (s_eqS) (zv 2) (zint) (nomark _)) (zw1 (ztc (op_neD hr.units) (s_neD) (zix ix_seq s_ix (zv 5) (zv 3) (fun _ _ => rfl)) (zlst (za_nil)) (nomark _))))) (zb_cons (zs_set (i := 6) sc_law_second.nd rfl (Or.inl rfl) (zcall tkd G_law_draw (hr.mono (by decide)) rfl (za_cons (zv 0) (za_cons (zcallB call_len s_len rfl T.g_len PySem.boot_len (za_cons (zix ix_seq s_ix (zv 5) (zv 3) (fun _ _ => rfl)) (za_nil))) (za_nil)))))
      (zb_one (zs_asg (zix ix_seq s_ix (zlst (za_cons (ztup (za_cons (zstr) (za_nil))) (za_cons (ztup (za_cons (zstr) (za_nil))) (za_cons (ztup (za_cons (zstr) (za_cons (zint) (za_nil)))) (za_nil))))) (zcall tkd G_law_draw (hr.mono (by decide)) rfl (za_cons (zv 0) (za_cons (zint) (za_nil)))) (fun _ _ => rfl)) (zg_sub (W0 := WF) s_setL set_list (zix ix_seq s_ix (zv 5) (zv 3) (fun _ _ => rfl)) (zv 6))))) (zb_one (zs_if (ztw (zwand (ztc op_eq (s_eqS) (zv 2) (zint) (nomark _)) (zw1 (ztc op_lt (s_lt) (zcallB call_len s_len rfl T.g_len PySem.boot_len (za_cons (zv 5) (za_nil))) (zint) (nomark _))))) (zb_one (zs_expr (zbm PySem.F.plainAttrs_list PySem.F.slot_list_append PySem.F.type_list_append mt_append s_append (zv 5) (za_cons (zlst (za_nil)) (za_nil))))) (zb_one (zs_if (ztc op_eq (s_eqS) (zv 2) (zint) (nomark _)) (zb_one (zs_expr (zbm PySem.F.plainAttrs_list PySem.F.slot_list_extend PySem.F.type_list_extend mt_extend s_extend (zix ix_seq s_ix (zv 5) (zv 3) (fun _ _ => rfl)) (za_cons (zop op_rep s_rep (zlst (za_cons (ztup (za_cons (zstr) (za_nil))) (za_nil))) (zcallTy call_int1 s_int rfl T.g_int (by decide +kernel) (za_cons (zcmp op_lt (s_lt) (zcallB call_len s_len rfl T.g_len PySem.boot_len (za_cons (zix ix_seq s_ix (zv 5) (zv 3) (fun _ _ => rfl)) (za_nil))) (zint) (nomark _)) (za_nil)))) (za_nil))))) (zb_one (zs_if (ztc op_eq (s_eqS) (zv 2) (zint) (nomark _)) (zb_cons (zs_setLc (i := 7) (own := [("things", 4)]) tg1_ok rfl sc_law_second.nd rfl rfl (sw_true rfl rfl rfl (by decide +kernel)) (zi_list (zv 5)) (blkOk_by (own := [("things", 4)]) (N := ["tray", "houses", "way", "at", "things", "found", "spot", "sizes", "last", "kept"]) (sc := defScope s_law_second) (by decide +kernel)) (fun _ _ _ _ _ => pg_name (i := 4) sc_law_second.nd rfl (Or.inl rfl)) (fun _ _ _ _ _ => zts_nil) (fun _ _ _ _ _ => zcallB call_len s_len rfl T.g_len PySem.boot_len (za_cons (zv 4) (za_nil))))
      (zb_cons (zs_set (i := 8) sc_law_second.nd rfl (Or.inl rfl) (zop op_sub s_sub (zcallB call_len s_len rfl T.g_len PySem.boot_len (za_cons (zv 5) (za_nil))) (zint)))
      (zb_one (zs_if (ztc (op_eqD hr.units) (s_eqD) (zix ix_seq s_ix (zv 7) (zv 3) (fun _ _ => rfl)) (zix ix_seq s_ix (zv 7) (zv 8) (fun _ _ => rfl)) (nomark _)) (zb_cons (zs_set (i := 9) sc_law_second.nd rfl (Or.inl rfl) (zix ix_seq s_ix (zv 5) (zv 3) (fun _ _ => rfl)))
      (zb_cons (zs_asg (zix ix_seq s_ix (zv 5) (zv 8) (fun _ _ => rfl)) (zg_sub (W0 := WF) s_setL set_list (zv 5) (zv 3)))
      (zb_one (zs_asg (zv 9) (zg_sub (W0 := WF) s_setL set_list (zv 5) (zv 8)))))) (zb_nil))))) (zb_nil))))))))
      (zb_one (zs_ret (zv 5))))))
theorem ok_law_ref (T : Tx w K mg) (F : FunD K "_law_ref" "_law_ref" (defArgs s_law_ref) (defBody s_law_ref) (defScope s_law_ref) [] [] f fd)
    (G_law_draw : Fn P w K mg base "_law_draw" 3 ["tray", "many"] [] (fs_law_draw)) : FnOk P w K mg base (L2.CX P w) 4 f fd ["tray", "sizes"] (lSp K (fs_law_ref)) := by
  refine zdef F sc_law_ref (fun p vs h q => by first | exact congrArg List.length q | exact congrArg List.length q.1 | (obtain ⟨_, _⟩ := p; first | exact congrArg List.length q | exact congrArg List.length q.1) | (obtain ⟨_, _, _⟩ := p; first | exact congrArg List.length q | exact congrArg List.length q.1) | (obtain ⟨_, _, _, _⟩ := p; first | exact congrArg List.length q | exact congrArg List.length q.1) | (obtain ⟨_, _, _, _, _⟩ := p; first | exact congrArg List.length q | exact congrArg List.length q.1)) fun cdv A outer s H E hr => ⟨r_law_ref, ?_, fun p vs h Q X g q hp hx => rd_law_ref g q hp⟩
  exact zb_cons (zs_set (i := 2) sc_law_ref.nd rfl (Or.inl rfl) (zcall tkd G_law_draw (hr.mono (by decide)) rfl (za_cons (zv 0) (za_cons (zcallB (cr_sum rfl) s_sum rfl T.g_sum (by decide +kernel) (za_cons (zv 1) (za_nil))) (za_nil)))))
      (zb_cons (zs_set (i := 3) sc_law_ref.nd rfl (Or.inl rfl) (zint))
      (zb_cons (zs_for psd rfl (zi_list (zv 1)) (zg_name (i := 4) sc_law_ref.nd rfl (Or.inl rfl))
      (zb_cons (zs_if (ztc op_lt (s_lt) (zv 2) (zv 4) (nomark _)) (zb_one (zs_ret (ztup (za_cons (zstr) (za_cons (zv 3) (za_cons (zv 2) (za_nil))))))) (zb_nil))
      (zb_cons (zs_set (i := 2) sc_law_ref.nd rfl (Or.inl rfl) (zop op_sub s_sub (zv 2) (zv 4)))
      (zb_one (zs_set (i := 3) sc_law_ref.nd rfl (Or.inl rfl) (zop op_add s_add (zv 3) (zint)))))))
      (zb_one (zs_ret (znon)))))
theorem ok_World_thing (T : Tx w K mg) (F : FunD K "thing" "World.thing" (defArgs s_World_thing) (defBody s_World_thing) (defScope s_World_thing) [] [] f fd)
    (G_is_there : Fn P w K mg base "is_there" 3 ["houses", "ref"] [] (fs_is_there))
    (E_NoThing : Ex P w K mg base "NoThing" (cl K "NoThing")) : FnOk P w K mg base (L2.CX P w) 4 f fd ["self", "ref"] (lSp K (fs_World_thing (cl K))) := by
  refine zdef F sc_World_thing (fun p vs h q => by first | exact congrArg List.length q | exact congrArg List.length q.1 | (obtain ⟨_, _⟩ := p; first | exact congrArg List.length q | exact congrArg List.length q.1) | (obtain ⟨_, _, _⟩ := p; first | exact congrArg List.length q | exact congrArg List.length q.1) | (obtain ⟨_, _, _, _⟩ := p; first | exact congrArg List.length q | exact congrArg List.length q.1) | (obtain ⟨_, _, _, _, _⟩ := p; first | exact congrArg List.length q | exact congrArg List.length q.1)) fun cdv A outer s H E hr => ⟨r_World_thing (cl K), ?_, fun p vs h Q X g q hp hx => rd_World_thing g q hp hx⟩
  exact zb_cons (zs_if (ztnot (ztv (zcall tkd G_is_there (hr.mono (by decide)) rfl (za_cons (zfld T.c_World T.n_World_houses_kept (zv 0)) (za_cons (zv 1) (za_nil)))))) (zb_one (zs_raise tkd rfl E_NoThing (hr.mono (by decide)) rfl (zv 1))) (zb_nil))
      (zb_one (zs_ret (zix ix_seq s_ix (zix ix_seq s_ix (zfld T.c_World T.n_World_houses_kept (zv 0)) (zix ix_seq s_ix (zv 1) (zint) (fun _ _ => rfl)) (fun _ _ => rfl)) (zix ix_seq s_ix (zv 1) (zint) (fun _ _ => rfl)) (fun _ _ => rfl))))
theorem ok_law_thing_asked (T : Tx w K mg) (F : FunD K "_law_thing_asked" "_law_thing_asked" (defArgs s_law_thing_asked) (defBody s_law_thing_asked) (defScope s_law_thing_asked) [] [] f fd)
    (G_World_thing_kwref : MtK P w K mg base (cl K "World") "thing" 4 ["self", "ref"] 0 ["ref"] [(.inr 0)] (fs_World_thing (cl K))) : FnOk P w K mg base (L2.CX P w) 5 f fd ["world", "named"] (lSp K (fs_law_thing_asked (cl K))) := by
  refine zdef F sc_law_thing_asked (fun p vs h q => by first | exact congrArg List.length q | exact congrArg List.length q.1 | (obtain ⟨_, _⟩ := p; first | exact congrArg List.length q | exact congrArg List.length q.1) | (obtain ⟨_, _, _⟩ := p; first | exact congrArg List.length q | exact congrArg List.length q.1) | (obtain ⟨_, _, _, _⟩ := p; first | exact congrArg List.length q | exact congrArg List.length q.1) | (obtain ⟨_, _, _, _, _⟩ := p; first | exact congrArg List.length q | exact congrArg List.length q.1)) fun cdv A outer s H E hr => ⟨r_law_thing_asked (cl K), ?_, fun p vs h Q X g q hp hx => rd_law_thing_asked g q hp⟩
  exact zb_cons (zs_set (i := 2) sc_law_thing_asked.nd rfl (Or.inl rfl) (znon))
      (zb_cons (zs_set (i := 3) sc_law_thing_asked.nd rfl (Or.inl rfl) (zlst (za_nil)))
      (zb_cons (zs_try_as rfl rfl sc_law_thing_asked.nd (i := 4) rfl rfl ⟨rfl, by decide, .inl T.gl_NoThing⟩ tkd (all_cons T.xm_NoThing__NoThing (all_nil)) (all_nil)
      (fun W0 pn0 xe0 tk0 ps0 => zb_one (zs_set (i := 2) sc_law_thing_asked.nd rfl (Or.inl rfl) (zmethK0 tk0 T.c_World G_World_thing_kwref (hr.mono (by decide)) (zv 0) (zk_cons (zv 1) (zk_nil)))))
      (fun ea eoe eC edd epn ehC ehz ehv => zb_one (zs_set (i := 3) sc_law_thing_asked.nd rfl (Or.inl rfl) (zlst (za_cons (zxf ((all_cons (P := fun C => ErrC K C) T.er_NoThing (all_nil)) eC ehC) ehz ehv (zv 4)) (za_cons (zerr_is ((all_cons (P := fun C => ErrC K C) T.er_NoThing (all_nil)) eC ehC) ehz ehv rfl T.g_isinstance (za_cons (zv 4) (za_cons (zcls rfl T.gl_SentError) za_nil)) rfl ((all_cons (P := fun C => PySem.W.kitOne K (.ref C) (.ref (cl K "SentError")) = some true) T.kt_NoThing__SentError (all_nil)) eC ehC)) (za_cons (zerr_is ((all_cons (P := fun C => ErrC K C) T.er_NoThing (all_nil)) eC ehC) ehz ehv rfl T.g_isinstance (za_cons (zv 4) (za_cons (ztyp rfl T.g_ValueError (by decide +kernel)) za_nil)) rfl ((all_cons (P := fun C => PySem.W.kitOne K (.ref C) (.type "ValueError") = some true) T.ky_NoThing__ValueError (all_nil)) eC ehC)) (za_cons (zerr_no ((all_cons (P := fun C => ErrC K C) T.er_NoThing (all_nil)) eC ehC) ehz ehv rfl T.g_isinstance (zv 4) (.cons (zcls rfl T.gl_NoAsker) ((all_cons (P := fun C => PySem.W.kitOne K (.ref C) (.ref (cl K "NoAsker")) = some false) T.kf_NoThing__NoAsker (all_nil)) eC ehC) (.cons (zcls rfl T.gl_NoHouse) ((all_cons (P := fun C => PySem.W.kitOne K (.ref C) (.ref (cl K "NoHouse")) = some false) T.kf_NoThing__NoHouse (all_nil)) eC ehC) (.cons (zcls rfl T.gl_NoLog) ((all_cons (P := fun C => PySem.W.kitOne K (.ref C) (.ref (cl K "NoLog")) = some false) T.kf_NoThing__NoLog (all_nil)) eC ehC) (.cons (zcls rfl T.gl_NoRow) ((all_cons (P := fun C => PySem.W.kitOne K (.ref C) (.ref (cl K "NoRow")) = some false) T.kf_NoThing__NoRow (all_nil)) eC ehC) (.cons (zcls rfl T.gl_NoScript) ((all_cons (P := fun C => PySem.W.kitOne K (.ref C) (.ref (cl K "NoScript")) = some false) T.kf_NoThing__NoScript (all_nil)) eC ehC) (.cons (zcls rfl T.gl_NoStep) ((all_cons (P := fun C => PySem.W.kitOne K (.ref C) (.ref (cl K "NoStep")) = some false) T.kf_NoThing__NoStep (all_nil)) eC ehC) (.cons (zcls rfl T.gl_NotSettled) ((all_cons (P := fun C => PySem.W.kitOne K (.ref C) (.ref (cl K "NotSettled")) = some false) T.kf_NoThing__NotSettled (all_nil)) eC ehC) (.cons (zcls rfl T.gl_NoText) ((all_cons (P := fun C => PySem.W.kitOne K (.ref C) (.ref (cl K "NoText")) = some false) T.kf_NoThing__NoText (all_nil)) eC ehC) (.cons (zcls rfl T.gl_NoWorld) ((all_cons (P := fun C => PySem.W.kitOne K (.ref C) (.ref (cl K "NoWorld")) = some false) T.kf_NoThing__NoWorld (all_nil)) eC ehC) (.cons (zcls rfl T.gl_TooMany) ((all_cons (P := fun C => PySem.W.kitOne K (.ref C) (.ref (cl K "TooMany")) = some false) T.kf_NoThing__TooMany (all_nil)) eC ehC) (.cons (zcls rfl T.gl_Twice) ((all_cons (P := fun C => PySem.W.kitOne K (.ref C) (.ref (cl K "Twice")) = some false) T.kf_NoThing__Twice (all_nil)) eC ehC) (.nil)))))))))))) (by simp)) (za_nil)))))))))
      (zb_one (zs_ret (zlst (za_cons (zv 2) (za_cons (zv 3) (za_nil))))))))
theorem ok_law_wild_ref (T : Tx w K mg) (F : FunD K "_law_wild_ref" "_law_wild_ref" (defArgs s_law_wild_ref) (defBody s_law_wild_ref) (defScope s_law_wild_ref) [] [] f fd)
    (G_law_draw : Fn P w K mg base "_law_draw" 3 ["tray", "many"] [] (fs_law_draw))
    (G_law_great : Fn P w K mg base "_law_great" 4 ["tray"] [] (fs_law_great)) : FnOk P w K mg base (L2.CX P w) 5 f fd ["tray", "sizes"] (lSp K (fs_law_wild_ref_v1)) := by
  refine zdef F sc_law_wild_ref (fun p vs h q => by first | exact congrArg List.length q | exact congrArg List.length q.1 | (obtain ⟨_, _⟩ := p; first | exact congrArg List.length q | exact congrArg List.length q.1) | (obtain ⟨_, _, _⟩ := p; first | exact congrArg List.length q | exact congrArg List.length q.1) | (obtain ⟨_, _, _, _⟩ := p; first | exact congrArg List.length q | exact congrArg List.length q.1) | (obtain ⟨_, _, _, _, _⟩ := p; first | exact congrArg List.length q | exact congrArg List.length q.1)) fun cdv A outer s H E hr => ⟨r_law_wild_ref_v1, ?_, fun p vs h Q X g q hp hx => rd_law_wild_ref_v1 g q hp⟩
  exact zb_cons (zs_set (i := 2) sc_law_wild_ref.nd rfl (Or.inl rfl) (zcall tkd G_law_draw (hr.mono (by decide)) rfl (za_cons (zv 0) (za_cons (zint) (za_nil)))))
      (zb_cons (zs_set (i := 3) sc_law_wild_ref.nd rfl (Or.inl rfl) (zop op_sub s_sub (zcall tkd G_law_draw (hr.mono (by decide)) rfl (za_cons (zv 0) (za_cons (zop op_add s_add (zcallB call_len s_len rfl T.g_len PySem.boot_len (za_cons (zv 1) (za_nil))) (zint)) (za_nil)))) (zcallTy call_int1 s_int rfl T.g_int (by decide +kernel) (za_cons (zcmp op_eq (s_eqS) (zv 2) (zint) (nomark _)) (za_nil)))))
      (zb_cons (zs_set (i := 4) sc_law_wild_ref.nd rfl (Or.inl rfl) (zop op_sub s_sub (zcall tkd G_law_draw (hr.mono (by decide)) rfl (za_cons (zv 0) (za_cons (zint) (za_nil)))) (zcallTy call_int1 s_int rfl T.g_int (by decide +kernel) (za_cons (zcmp op_eq (s_eqS) (zv 2) (zint) (nomark _)) (za_nil)))))
      (zb_cons (zs_if (ztc op_eq (s_eqS) (zv 2) (zint) (nomark _)) (zb_one (zs_set (i := 3) sc_law_wild_ref.nd rfl (Or.inl rfl) (zcall tkd G_law_great (hr.mono (by decide)) rfl (za_cons (zv 0) (za_nil))))) (zb_nil))
      (zb_cons (zs_if (ztc op_eq (s_eqS) (zv 2) (zint) (nomark _)) (zb_one (zs_set (i := 4) sc_law_wild_ref.nd rfl (Or.inl rfl) (zop op_sub s_sub (zneg (zint)) (zcall tkd G_law_great (hr.mono (by decide)) rfl (za_cons (zv 0) (za_nil)))))) (zb_nil))
      (zb_cons (zs_if (ztw (zwand (ztc op_gt (s_gt) (zv 2) (zint) (nomark _)) (zw1 (ztchain op_le op_lt (s_le) (s_lt) (zint) (zv 3) (zcallB call_len s_len rfl T.g_len PySem.boot_len (za_cons (zv 1) (za_nil))))))) (zb_one (zs_set (i := 4) sc_law_wild_ref.nd rfl (Or.inl rfl) (zop op_add s_add (zop op_sub s_sub (zix ix_seq s_ix (zv 1) (zv 3) (fun _ _ => rfl)) (zint)) (zv 2)))) (zb_nil))
      (zb_one (zs_ret (ztup (za_cons (zstr) (za_cons (zv 3) (za_cons (zv 4) (za_nil))))))))))))
theorem ok_law_things_right (T : Tx w K mg) (F : FunD K "_law_things_right" "_law_things_right" (defArgs s_law_things_right) (defBody s_law_things_right) (defScope s_law_things_right) [] [] f fd)
    (G_law_alike : Fn P w K mg base "_law_alike" 8 ["found", "due"] [] (fs_law_alike 5))
    (G_law_draw : Fn P w K mg base "_law_draw" 3 ["tray", "many"] [] (fs_law_draw))
    (G_law_ref : Fn P w K mg base "_law_ref" 4 ["tray", "sizes"] [] (fs_law_ref))
    (G_law_thing_asked : Fn P w K mg base "_law_thing_asked" 5 ["world", "named"] [] (fs_law_thing_asked (cl K)))
    (G_law_wild_ref : Fn P w K mg base "_law_wild_ref" 5 ["tray", "sizes"] [] (fs_law_wild_ref_v1)) : FnOk P w K mg base (L2.CX P w) 9 f fd ["tray", "world", "houses"] (lSp K (fs_law_things_right (cl K))) := by
  refine zdef F sc_law_things_right (fun p vs h q => by first | exact congrArg List.length q | exact congrArg List.length q.1 | (obtain ⟨_, _⟩ := p; first | exact congrArg List.length q | exact congrArg List.length q.1) | (obtain ⟨_, _, _⟩ := p; first | exact congrArg List.length q | exact congrArg List.length q.1) | (obtain ⟨_, _, _, _⟩ := p; first | exact congrArg List.length q | exact congrArg List.length q.1) | (obtain ⟨_, _, _, _, _⟩ := p; first | exact congrArg List.length q | exact congrArg List.length q.1)) fun cdv A outer s H E hr => ⟨r_law_things_right (cl K), ?_, fun p vs h Q X g q hp hx => rd_law_things_right g q hp⟩
  exact zb_cons (zs_setLc (i := 4) (own := [("things", 3)]) tg1_ok rfl sc_law_things_right.nd rfl rfl (sw_true rfl rfl rfl (by decide +kernel)) (zi_list (zv 2)) (blkOk_by (own := [("things", 3)]) (N := ["tray", "world", "houses", "things", "sizes", "k", "named", "found", "refused", "there", "due"]) (sc := defScope s_law_things_right) (by decide +kernel)) (fun _ _ _ _ _ => pg_name (i := 3) sc_law_things_right.nd rfl (Or.inl rfl)) (fun _ _ _ _ _ => zts_nil) (fun _ _ _ _ _ => zcallB call_len s_len rfl T.g_len PySem.boot_len (za_cons (zv 3) (za_nil))))
      (zb_cons (zs_for psd rfl (zi_r1 rfl T.g_range (zint)) (zg_name (i := 5) sc_law_things_right.nd rfl (Or.inl rfl))
      (zb_cons (zs_set (i := 6) sc_law_things_right.nd rfl (Or.inl rfl) (zcall tkd G_law_wild_ref (hr.mono (by decide)) rfl (za_cons (zv 0) (za_cons (zv 4) (za_nil)))))
      (zb_cons (zs_if (ztw (zwand (ztc op_gt (s_gt) (zcallB (cr_sum rfl) s_sum rfl T.g_sum (by decide +kernel) (za_cons (zv 4) (za_nil))) (zint) (nomark _)) (zw1 (ztc op_eq (s_eqS) (zcall tkd G_law_draw (hr.mono (by decide)) rfl (za_cons (zv 0) (za_cons (zint) (za_nil)))) (zint) (nomark _))))) (zb_one (zs_set (i := 6) sc_law_things_right.nd rfl (Or.inl rfl) (zcall tkd G_law_ref (hr.mono (by decide)) rfl (za_cons (zv 0) (za_cons (zv 4) (za_nil)))))) (zb_nil))
      (zb_cons (zs_if (ztc op_eq (s_eqS) (zcall tkd G_law_draw (hr.mono (by decide)) rfl (za_cons (zv 0) (za_cons (zint) (za_nil)))) (zint) (nomark _)) (zb_one (zs_set (i := 6) sc_law_things_right.nd rfl (Or.inl rfl) (ztup (za_cons (zstr) (za_cons (zix ix_seq s_ix (zv 6) (zint) (fun _ _ => rfl)) (za_cons (zint) (za_cons (zix ix_seq s_ix (zv 6) (zint) (fun _ _ => rfl)) (za_nil)))))))) (zb_nil))
      (zb_cons (zs_asg (zcall tkd G_law_thing_asked (hr.mono (by decide)) rfl (za_cons (zv 1) (za_cons (zv 6) (za_nil)))) (zg_unl rfl (zgs_cons (zg_name (i := 7) sc_law_things_right.nd rfl (Or.inl rfl)) (zgs_cons (zg_name (i := 8) sc_law_things_right.nd rfl (Or.inl rfl)) (zgs_nil)))))
      (zb_cons (zs_set (i := 9) sc_law_things_right.nd rfl (Or.inl rfl) (zand (zcmp op_eq (s_eqS) (zix ix_seq s_ix (zv 6) (zint) (fun _ _ => rfl)) (zstr) (nomark _)) (zone (zchain op_le op_lt (s_le) (s_lt) (zint) (zix ix_seq s_ix (zv 6) (zint) (fun _ _ => rfl)) (zcallB call_len s_len rfl T.g_len PySem.boot_len (za_cons (zv 4) (za_nil)))))))
      (zb_cons (zs_set (i := 9) sc_law_things_right.nd rfl (Or.inl rfl) (zand (zv 9) (zone (zchain op_le op_lt (s_le) (s_lt) (zint) (zix ix_seq s_ix (zv 6) (zint) (fun _ _ => rfl)) (zix ix_seq s_ix (zv 4) (zix ix_seq s_ix (zv 6) (zint) (fun _ _ => rfl)) (fun _ _ => rfl))))))
      (zb_cons (zs_set (i := 10) sc_law_things_right.nd rfl (Or.inl rfl) (znon))
      (zb_cons (zs_if (ztv (zv 9)) (zb_one (zs_set (i := 10) sc_law_things_right.nd rfl (Or.inl rfl) (zix ix_seq s_ix (zix ix_seq s_ix (zv 2) (zix ix_seq s_ix (zv 6) (zint) (fun _ _ => rfl)) (fun _ _ => rfl)) (zix ix_seq s_ix (zv 6) (zint) (fun _ _ => rfl)) (fun _ _ => rfl)))) (zb_nil))
      (zb_cons (zs_if (ztw (zwand (ztv (zv 9)) (zw1 (ztw (zwor (ztc (op_neD hr.units) (s_neD) (zv 8) (zlst (za_nil)) (nomark _)) (zw1 (ztnot (ztv (zcall tkd G_law_alike (hr.mono (by decide)) rfl (za_cons (zv 7) (za_cons (zv 10) (za_nil)))))))))))) (zb_one (zs_ret (zbl))) (zb_nil))
      (zb_one (zs_if (ztw (zwand (ztnot (ztv (zv 9))) (zw1 (ztnot (ztv (zcall tkd G_law_alike (hr.mono (by decide)) rfl (za_cons (zv 8) (za_cons (zlst (za_cons (zv 6) (za_cons (zbl) (za_cons (zbl) (za_cons (zbl) (za_nil)))))) (za_nil))))))))) (zb_one (zs_ret (zbl))) (zb_nil)))))))))))))
      (zb_one (zs_ret (zbl))))
theorem ok_law_told (T : Tx w K mg) (F : FunD K "_law_told" "_law_told" (defArgs s_law_told) (defBody s_law_told) (defScope s_law_told) [] [] f fd)
    (G_World___len__ : Mt P w K mg base (cl K "World") "__len__" 3 ["self"] [] (fs_World___len__ (cl K)))
    (G_World_house : Mt P w K mg base (cl K "World") "house" 3 ["self", "number"] [] (fs_World_house (cl K)))
    (G_law_alike : Fn P w K mg base "_law_alike" 8 ["found", "due"] [] (fs_law_alike 5)) : FnOk P w K mg base (L2.CX P w) 9 f fd ["world", "houses"] (lSp K (fs_law_told_v1 (cl K))) := by
  refine zdef F sc_law_told (fun p vs h q => by first | exact congrArg List.length q | exact congrArg List.length q.1 | (obtain ⟨_, _⟩ := p; first | exact congrArg List.length q | exact congrArg List.length q.1) | (obtain ⟨_, _, _⟩ := p; first | exact congrArg List.length q | exact congrArg List.length q.1) | (obtain ⟨_, _, _, _⟩ := p; first | exact congrArg List.length q | exact congrArg List.length q.1) | (obtain ⟨_, _, _, _, _⟩ := p; first | exact congrArg List.length q | exact congrArg List.length q.1)) fun cdv A outer s H E hr => ⟨r_law_told_v1 (cl K), ?_, fun p vs h Q X g q hp hx => rd_law_told_v1 g q hp⟩
  exact zb_cons (zs_if (ztc op_ne (s_neS) (zlenO G_World___len__ (hr.mono (by decide)) rfl T.g_len (za_cons (zv 0) (za_nil))) (zcallB call_len s_len rfl T.g_len PySem.boot_len (za_cons (zv 1) (za_nil))) (nomark _)) (zb_one (zs_ret (zbl))) (zb_nil))
      (zb_cons (zs_for psd rfl (zi_r1 rfl T.g_range (zcallB call_len s_len rfl T.g_len PySem.boot_len (za_cons (zv 1) (za_nil)))) (zg_name (i := 2) sc_law_told.nd rfl (Or.inl rfl))
      (zb_one (zs_if (ztnot (ztv (zcall tkd G_law_alike (hr.mono (by decide)) rfl (za_cons (zmeth tkd T.c_World G_World_house (hr.mono (by decide)) (zv 0) (za_cons (zv 2) (za_nil))) (za_cons (zix ix_seq s_ix (zv 1) (zv 2) (fun _ _ => rfl)) (za_nil)))))) (zb_one (zs_ret (zbl))) (zb_nil))))
      (zb_one (zs_ret (zbl))))
theorem ok_law_tray (T : Tx w K mg) (F : FunD K "_law_tray" "_law_tray" (defArgs s_law_tray) (defBody s_law_tray) (defScope s_law_tray) [] [] f fd) : FnOk P w K mg base (L2.CX P w) 3 f fd ["script"] (lSp K (fs_law_tray)) := by
  refine zdef F sc_law_tray (fun p vs h q => by first | exact congrArg List.length q | exact congrArg List.length q.1 | (obtain ⟨_, _⟩ := p; first | exact congrArg List.length q | exact congrArg List.length q.1) | (obtain ⟨_, _, _⟩ := p; first | exact congrArg List.length q | exact congrArg List.length q.1) | (obtain ⟨_, _, _, _⟩ := p; first | exact congrArg List.length q | exact congrArg List.length q.1) | (obtain ⟨_, _, _, _, _⟩ := p; first | exact congrArg List.length q | exact congrArg List.length q.1)) fun cdv A outer s H E hr => ⟨r_law_tray, ?_, fun p vs h Q X g q hp hx => rd_law_tray g q hp⟩
  exact zb_cons (zs_set (i := 1) sc_law_tray.nd rfl (Or.inl rfl) (zint))
      (zb_cons (zs_set (i := 2) sc_law_tray.nd rfl (Or.inl rfl) (zlst (za_nil)))
      (zb_cons (zs_for psd rfl (zi_list (zv 0)) (zg_name (i := 3) sc_law_tray.nd rfl (Or.inl rfl))
      (zb_cons (zs_set (i := 1) sc_law_tray.nd rfl (Or.inl rfl) (zop op_mod s_mod (zop op_add s_add (zop op_mul s_mul (zv 1) (zint)) (zv 3)) (zop op_sub s_sub (zop op_pow s_pow (zint) (zint)) (zint))))
      (zb_cons (zs_set (i := 4) sc_law_tray.nd rfl (Or.inl rfl) (zcallB (call_max2 rfl) s_max2 rfl T.g_max (by decide +kernel) (za_cons (zv 3) (za_cons (zop op_sub s_sub (zint) (zv 3)) (za_nil)))))
      (zb_one (zs_if (ztc op_ge (s_ge) (zv 4) (zop op_pow s_pow (zint) (zint)) (nomark _)) (zb_one (zs_expr (zbm PySem.F.plainAttrs_list PySem.F.slot_list_append PySem.F.type_list_append mt_append s_append (zv 2) (za_cons (zop op_sub s_sub (zv 4) (zop op_pow s_pow (zint) (zint))) (za_nil))))) (zb_nil))))))
      (zb_one (zs_ret (zlst (za_cons (zv 2) (za_cons (zint) (za_cons (zv 1) (za_cons (zint) (za_nil))))))))))
theorem ok_law_sizes (T : Tx w K mg) (F : FunD K "_law_sizes" "_law_sizes" (defArgs s_law_sizes) (defBody s_law_sizes) (defScope s_law_sizes) [] [] f fd)
    (G_law_draw : Fn P w K mg base "_law_draw" 3 ["tray", "many"] [] (fs_law_draw)) : FnOk P w K mg base (L2.CX P w) 4 f fd ["tray"] (lSp K (fs_law_sizes)) := by
  refine zdef F sc_law_sizes (fun p vs h q => by first | exact congrArg List.length q | exact congrArg List.length q.1 | (obtain ⟨_, _⟩ := p; first | exact congrArg List.length q | exact congrArg List.length q.1) | (obtain ⟨_, _, _⟩ := p; first | exact congrArg List.length q | exact congrArg List.length q.1) | (obtain ⟨_, _, _, _⟩ := p; first | exact congrArg List.length q | exact congrArg List.length q.1) | (obtain ⟨_, _, _, _, _⟩ := p; first | exact congrArg List.length q | exact congrArg List.length q.1)) fun cdv A outer s H E hr => ⟨r_law_sizes, ?_, fun p vs h Q X g q hp hx => rd_law_sizes g q hp⟩
  exact zb_cons (zs_set (i := 1) sc_law_sizes.nd rfl (Or.inl rfl) (zcall tkd G_law_draw (hr.mono (by decide)) rfl (za_cons (zv 0) (za_cons (zint) (za_nil)))))
      (zb_cons (zs_set (i := 2) sc_law_sizes.nd rfl (Or.inr rfl) (zlst (za_cons (zint) (za_cons (zint) (za_nil)))))
      (zb_cons (zs_if (ztc op_eq (s_eqS) (zv 1) (zint) (nomark _)) (zb_one (zs_set (i := 2) sc_law_sizes.nd rfl (Or.inr rfl) (zlst (za_cons (zint) (za_cons (zint) (za_nil)))))) (zb_nil))
      (zb_cons (zs_set (i := 3) sc_law_sizes.nd rfl (Or.inl rfl) (zop op_add s_add (zint) (zcall tkd G_law_draw (hr.mono (by decide)) rfl (za_cons (zv 0) (za_cons (zix ix_seq s_ix (zv 2) (zint) (fun _ _ => rfl)) (za_nil))))))
      (zb_one (zs_ret (zlc (own := [("k", 4)]) tg1_ok rfl sc_law_sizes.nd (zi_r1 rfl T.g_range (zv 3)) (blkOk_by (own := [("k", 4)]) (N := ["tray", "wide", "bounds", "many", "k"]) (sc := defScope s_law_sizes) (by decide +kernel)) (fun _ _ _ _ _ => pg_name (i := 4) sc_law_sizes.nd rfl (Or.inl rfl)) (fun _ _ _ _ _ => zts_nil) (fun _ _ _ _ _ => zcall takes0 G_law_draw (hr.mono (by decide)) rfl (za_cons (zv 0) (za_cons (zix ix_seq s_ix (zv 2) (zint) (fun _ _ => rfl)) (za_nil))))))))))
theorem ok_law_any (T : Tx w K mg) (F : FunD K "_law_any" "_law_any" (defArgs s_law_any) (defBody s_law_any) (defScope s_law_any) [] [] f fd)
    (G_law_draw : Fn P w K mg base "_law_draw" 3 ["tray", "many"] [] (fs_law_draw)) : FnOk P w K mg base (L2.CX P w) 4 f fd ["tray"] (lSp K (fs_law_any)) := by
  refine zdef F sc_law_any (fun p vs h q => by first | exact congrArg List.length q | exact congrArg List.length q.1 | (obtain ⟨_, _⟩ := p; first | exact congrArg List.length q | exact congrArg List.length q.1) | (obtain ⟨_, _, _⟩ := p; first | exact congrArg List.length q | exact congrArg List.length q.1) | (obtain ⟨_, _, _, _⟩ := p; first | exact congrArg List.length q | exact congrArg List.length q.1) | (obtain ⟨_, _, _, _, _⟩ := p; first | exact congrArg List.length q | exact congrArg List.length q.1)) fun cdv A outer s H E hr => ⟨r_law_any, ?_, fun p vs h Q X g q hp hx => rd_law_any g q hp⟩
  exact zb_cons (zs_set (i := 1) sc_law_any.nd rfl (Or.inl rfl) (zcall tkd G_law_draw (hr.mono (by decide)) rfl (za_cons (zv 0) (za_cons (zint) (za_nil)))))
      (zb_cons (zs_if (ztc op_lt (s_lt) (zv 1) (zint) (nomark _)) (zb_one (zs_ret (zop op_sub s_sub (zcall tkd G_law_draw (hr.mono (by decide)) rfl (za_cons (zv 0) (za_cons (zint) (za_nil)))) (zint)))) (zb_nil))
      (zb_cons (zs_set (i := 2) sc_law_any.nd rfl (Or.inl rfl) (zcall tkd G_law_draw (hr.mono (by decide)) rfl (za_cons (zv 0) (za_cons (zop op_pow s_pow (zint) (zint)) (za_nil)))))
      (zb_cons (zs_for psd rfl (zi_r1 rfl T.g_range (zint)) (zg_name (i := 3) sc_law_any.nd rfl (Or.inl rfl))
      (zb_one (zs_set (i := 2) sc_law_any.nd rfl (Or.inl rfl) (zop op_add s_add (zop op_mul s_mul (zv 2) (zop op_pow s_pow (zint) (zint))) (zcall tkd G_law_draw (hr.mono (by decide)) rfl (za_cons (zv 0) (za_cons (zop op_pow s_pow (zint) (zint)) (za_nil))))))))
      (zb_one (zs_ret (zop op_mul s_mul (zv 2) (zop op_sub s_sub (zint) (zop op_mul s_mul (zint) (zv 1)))))))))
theorem ok_law_thing (T : Tx w K mg) (F : FunD K "_law_thing" "_law_thing" (defArgs s_law_thing) (defBody s_law_thing) (defScope s_law_thing) [] [] f fd)
    (G_law_any : Fn P w K mg base "_law_any" 4 ["tray"] [] (fs_law_any))
    (G_law_draw : Fn P w K mg base "_law_draw" 3 ["tray", "many"] [] (fs_law_draw))
    (G_law_ref : Fn P w K mg base "_law_ref" 4 ["tray", "sizes"] [] (fs_law_ref)) : FnOk P w K mg base (L2.CX P w) 5 f fd ["tray", "sizes"] (lSp K (fs_law_thing)) := by
  refine zdef F sc_law_thing (fun p vs h q => by first | exact congrArg List.length q | exact congrArg List.length q.1 | (obtain ⟨_, _⟩ := p; first | exact congrArg List.length q | exact congrArg List.length q.1) | (obtain ⟨_, _, _⟩ := p; first | exact congrArg List.length q | exact congrArg List.length q.1) | (obtain ⟨_, _, _, _⟩ := p; first | exact congrArg List.length q | exact congrArg List.length q.1) | (obtain ⟨_, _, _, _, _⟩ := p; first | exact congrArg List.length q | exact congrArg List.length q.1)) fun cdv A outer s H E hr => ⟨r_law_thing, ?_, fun p vs h Q X g q hp hx => rd_law_thing g q hp⟩
  exact zb_cons (zs_set (i := 2) sc_law_thing.nd rfl (Or.inl rfl) (zcall tkd G_law_draw (hr.mono (by decide)) rfl (za_cons (zv 0) (za_cons (zint) (za_nil)))))
      (zb_cons (zs_if (ztc op_lt (s_lt) (zv 2) (zint) (nomark _)) (zb_one (zs_ret (ztup (za_cons (zstr) (za_cons (zcall tkd G_law_any (hr.mono (by decide)) rfl (za_cons (zv 0) (za_nil))) (za_nil)))))) (zb_nil))
      (zb_cons (zs_if (ztc op_lt (s_lt) (zv 2) (zint) (nomark _)) (zb_cons (zs_set (i := 3) sc_law_thing.nd rfl (Or.inl rfl) (zcall tkd G_law_draw (hr.mono (by decide)) rfl (za_cons (zv 0) (za_cons (zix ix_seq s_ix (zlst (za_cons (zint) (za_cons (zint) (za_nil)))) (zop op_fdivW s_divW (zcall tkd G_law_draw (hr.mono (by decide)) rfl (za_cons (zv 0) (za_cons (zint) (za_nil)))) (zint)) (fun _ _ => rfl)) (za_nil)))))
      (zb_one (zs_ret (ztup (za_cons (zstr) (za_cons (zcallTy call_tuple_of s_tuple rfl T.g_tuple (by decide +kernel) (za_cons (zlc (own := [("k", 4)]) tg1_ok rfl sc_law_thing.nd (zi_r1 rfl T.g_range (zv 3)) (blkOk_by (own := [("k", 4)]) (N := ["tray", "sizes", "kind", "many", "k"]) (sc := defScope s_law_thing) (by decide +kernel)) (fun _ _ _ _ _ => pg_name (i := 4) sc_law_thing.nd rfl (Or.inl rfl)) (fun _ _ _ _ _ => zts_nil) (fun _ _ _ _ _ => zcall takes0 G_law_ref (hr.mono (by decide)) rfl (za_cons (zv 0) (za_cons (zv 1) (za_nil))))) (za_nil))) (za_nil))))))) (zb_nil))
      (zb_cons (zs_if (ztc op_lt (s_lt) (zv 2) (zint) (nomark _)) (zb_one (zs_ret (ztup (za_cons (zstr) (za_cons (zcall tkd G_law_ref (hr.mono (by decide)) rfl (za_cons (zv 0) (za_cons (zv 1) (za_nil)))) (za_nil)))))) (zb_nil))
      (zb_one (zs_ret (zix ix_seq s_ix (zlst (za_cons (ztup (za_cons (zstr) (za_nil))) (za_cons (ztup (za_cons (zstr) (za_nil))) (za_nil)))) (zop op_sub s_sub (zv 2) (zint)) (fun _ _ => rfl)))))))
theorem ok_law_world (T : Tx w K mg) (F : FunD K "_law_world" "_law_world" (defArgs s_law_world) (defBody s_law_world) (defScope s_law_world) [] [] f fd)
    (G_law_sizes : Fn P w K mg base "_law_sizes" 4 ["tray"] [] (fs_law_sizes))
    (G_law_thing : Fn P w K mg base "_law_thing" 5 ["tray", "sizes"] [] (fs_law_thing)) : FnOk P w K mg base (L2.CX P w) 6 f fd ["tray"] (lSp K (fs_law_world_v1)) := by
  refine zdef F sc_law_world (fun p vs h q => by first | exact congrArg List.length q | exact congrArg List.length q.1 | (obtain ⟨_, _⟩ := p; first | exact congrArg List.length q | exact congrArg List.length q.1) | (obtain ⟨_, _, _⟩ := p; first | exact congrArg List.length q | exact congrArg List.length q.1) | (obtain ⟨_, _, _, _⟩ := p; first | exact congrArg List.length q | exact congrArg List.length q.1) | (obtain ⟨_, _, _, _, _⟩ := p; first | exact congrArg List.length q | exact congrArg List.length q.1)) fun cdv A outer s H E hr => ⟨r_law_world_v1, ?_, fun p vs h Q X g q hp hx => rd_law_world_v1 g q hp⟩
  exact zb_cons (zs_set (i := 1) sc_law_world.nd rfl (Or.inr rfl) (zcall tkd G_law_sizes (hr.mono (by decide)) rfl (za_cons (zv 0) (za_nil))))
      (zb_cons (zs_set (i := 2) sc_law_world.nd rfl (Or.inl rfl) (zlst (za_nil)))
      (zb_cons (zs_for psd rfl (zi_list (zv 1)) (zg_name (i := 3) sc_law_world.nd rfl (Or.inl rfl))
      (zb_one (zs_expr (zbm PySem.F.plainAttrs_list PySem.F.slot_list_append PySem.F.type_list_append mt_append s_append (zv 2) (za_cons (zlc (own := [("k", 4)]) tg1_ok rfl sc_law_world.nd (zi_r1 rfl T.g_range (zv 3)) (blkOk_by (own := [("k", 4)]) (N := ["tray", "sizes", "houses", "size", "k"]) (sc := defScope s_law_world) (by decide +kernel)) (fun _ _ _ _ _ => pg_name (i := 4) sc_law_world.nd rfl (Or.inl rfl)) (fun _ _ _ _ _ => zts_nil) (fun _ _ _ _ _ => zcall takes0 G_law_thing (hr.mono (by decide)) rfl (za_cons (zv 0) (za_cons (zv 1) (za_nil))))) (za_nil))))))
      (zb_one (zs_ret (zv 2)))))
theorem ok_law (T : Tx w K mg) (F : FunD K "law" "law" (defArgs s_law) (defBody s_law) (defScope s_law) [] [] f fd)
    (G_World___eq__ : Mt P w K mg base (cl K "World") "__eq__" 3 ["self", "other"] [] (fs_World___eq__ (cl K)))
    (G_World___init__ : Ck P w K mg base "World" (cl K "World") 5 ["self", "houses"] [] (fs_World___init__ (cl K)))
    (G_World___len__ : Mt P w K mg base (cl K "World") "__len__" 3 ["self"] [] (fs_World___len__ (cl K)))
    (G_World___str__ : Mt P w K mg base (cl K "World") "__str__" 6 ["self"] [] (fs_World___str__ (cl K)))
    (G_law_alike : Fn P w K mg base "_law_alike" 8 ["found", "due"] [] (fs_law_alike 5))
    (G_law_houses_right : Fn P w K mg base "_law_houses_right" 9 ["tray", "world", "houses"] [] (fs_law_houses_right (cl K)))
    (G_law_second : Fn P w K mg base "_law_second" 4 ["tray", "houses"] [] (fs_law_second))
    (G_law_things_right : Fn P w K mg base "_law_things_right" 9 ["tray", "world", "houses"] [] (fs_law_things_right (cl K)))
    (G_law_told : Fn P w K mg base "_law_told" 9 ["world", "houses"] [] (fs_law_told_v1 (cl K)))
    (G_law_tray : Fn P w K mg base "_law_tray" 3 ["script"] [] (fs_law_tray))
    (G_law_world : Fn P w K mg base "_law_world" 6 ["tray"] [] (fs_law_world_v1)) : FnOk P w K mg base CX0 10 f fd ["script"] (lSp K ⟨Unit, fun _ => preL, fun _ _ v _ => v = .bl true, fun _ _ _ _ _ => False⟩) := by
  refine zlaw F sc_law (fun vs h ⟨ns, q, _⟩ => congrArg List.length q) fun cdv A outer s H E hr => ⟨r_law_k03 (cl K), ?_, fun vs h Q q hp => rd_law_k03 q hp⟩
  exact zb_cons (zs_set (i := 1) sc_law.nd rfl (Or.inl rfl) (zcall tkl G_law_tray (hr.mono (by decide)) rfl (za_cons (zv 0) (za_nil))))
      (zb_cons (zs_for psl rfl (zi_r1 rfl T.g_range (zop op_add s_add (zint) (zcallB call_len s_len rfl T.g_len PySem.boot_len (za_cons (zslice sl_list s_slL (zv 0) (zo_none) (zo_some (zint))) (za_nil))))) (zg_name (i := 2) sc_law.nd rfl (Or.inl rfl))
      (zb_cons (zs_set (i := 3) sc_law.nd rfl (Or.inl rfl) (zcall tkl G_law_world (hr.mono (by decide)) rfl (za_cons (zv 1) (za_nil))))
      (zb_cons (zs_set (i := 4) sc_law.nd rfl (Or.inl rfl) (zcall tkl G_law_second (hr.mono (by decide)) rfl (za_cons (zv 1) (za_cons (zv 3) (za_nil)))))
      (zb_cons (zs_set (i := 6) sc_law.nd rfl (Or.inl rfl) (zmake tkl G_World___init__ (hr.mono (by decide)) rfl (za_cons (zlc (own := [("things", 5)]) tg1_ok rfl sc_law.nd (zi_list (zv 3)) (blkOk_by (own := [("things", 5)]) (N := ["script", "tray", "k", "houses", "others", "things", "world", "second", "same"]) (sc := defScope s_law) (by decide +kernel)) (fun _ _ _ _ _ => pg_name (i := 5) sc_law.nd rfl (Or.inl rfl)) (fun _ _ _ _ _ => zts_nil) (fun _ _ _ _ _ => zcallTy call_list_of s_list rfl T.g_list (by decide +kernel) (za_cons (zv 5) (za_nil)))) (za_nil))))
      (zb_cons (zs_set (i := 7) sc_law.nd rfl (Or.inl rfl) (zmake tkl G_World___init__ (hr.mono (by decide)) rfl (za_cons (zlc (own := [("things", 5)]) tg1_ok rfl sc_law.nd (zi_list (zv 4)) (blkOk_by (own := [("things", 5)]) (N := ["script", "tray", "k", "houses", "others", "things", "world", "second", "same"]) (sc := defScope s_law) (by decide +kernel)) (fun _ _ _ _ _ => pg_name (i := 5) sc_law.nd rfl (Or.inl rfl)) (fun _ _ _ _ _ => zts_nil) (fun _ _ _ _ _ => zcallTy call_list_of s_list rfl T.g_list (by decide +kernel) (za_cons (zv 5) (za_nil)))) (za_nil))))
      (zb_cons (zs_if (ztw (zwor (ztnot (ztv (zcall tkl G_law_things_right (hr.mono (by decide)) rfl (za_cons (zv 1) (za_cons (zv 6) (za_cons (zv 3) (za_nil))))))) (zw1 (ztnot (ztv (zcall tkl G_law_houses_right (hr.mono (by decide)) rfl (za_cons (zv 1) (za_cons (zv 6) (za_cons (zv 3) (za_nil)))))))))) (zb_one (zs_ret (zbl))) (zb_nil))
      (zb_cons (zs_set (i := 8) sc_law.nd rfl (Or.inl rfl) (zcmp (op_eqD hr.units) (s_eqD) (zv 3) (zv 4) (nomark _)))
      (zb_cons (zs_if (ztw (zwor (ztnot (ztv (zcall tkl G_law_alike (hr.mono (by decide)) rfl (za_cons (zcmp (op_eqOG G_World___eq__ (hr.mono (by decide))) (s_eqO) (zv 6) (zv 7) (nomark _)) (za_cons (zv 8) (za_nil)))))) (zw1 (ztnot (ztv (zcall tkl G_law_alike (hr.mono (by decide)) rfl (za_cons (zcmp (op_neOG G_World___eq__ T.ne_World (hr.mono (by decide))) (s_neO) (zv 7) (zv 6) (nomark _)) (za_cons (znot (zv 8)) (za_nil))))))))) (zb_one (zs_ret (zbl))) (zb_nil))
      (zb_cons (zs_if (ztnot (ztv (zcall tkl G_law_alike (hr.mono (by decide)) rfl (za_cons (zcmp (op_inOG G_World___eq__ (hr.mono (by decide))) (s_inO) (zv 6) (zlst (za_cons (zv 7) (za_nil))) rfl) (za_cons (zv 8) (za_nil)))))) (zb_one (zs_ret (zbl))) (zb_nil))
      (zb_cons (zs_if (ztw (zwor (ztnot (ztv (zcall tkl G_law_told (hr.mono (by decide)) rfl (za_cons (zv 6) (za_cons (zv 3) (za_nil)))))) (zwor (ztnot (ztv (zcall tkl G_law_told (hr.mono (by decide)) rfl (za_cons (zv 7) (za_cons (zv 4) (za_nil)))))) (zw1 (ztc op_ne (s_neS) (zlenO G_World___len__ (hr.mono (by decide)) rfl T.g_len (za_cons (zv 7) (za_nil))) (zcallB call_len s_len rfl T.g_len PySem.boot_len (za_cons (zv 4) (za_nil))) (nomark _)))))) (zb_one (zs_ret (zbl))) (zb_nil))
      (zb_one (zs_if (ztw (zwor (ztnot (ztv (zcallB call_isi s_isi rfl T.g_isinstance (by decide +kernel) (za_cons (zstrO G_World___str__ (hr.mono (by decide)) rfl T.g_str (za_cons (zv 6) (za_nil))) (za_cons (ztyp rfl T.g_str (by decide +kernel)) (za_nil)))))) (zw1 (ztc (op_neD hr.units) (s_neD) (zcmp op_eq (s_eqS) (zstrO G_World___str__ (hr.mono (by decide)) rfl T.g_str (za_cons (zv 6) (za_nil))) (zstrO G_World___str__ (hr.mono (by decide)) rfl T.g_str (za_cons (zv 7) (za_nil))) (nomark _)) (zv 8) (nomark _))))) (zb_one (zs_ret (zbl))) (zb_nil)))))))))))))
      (zb_one (zs_ret (zbl))))
end
theorem facts {P : Program} {w : World} {K : PySem.W.Frag} {h : Heap} {mg : Str → Option Value} {f : Addr} (X : K.In h) (G : h.Ns mainGlobals mg) (hfa : mg ("law" : Str) = some (.ref f)) (ce : SaysE fa fn tb xs fb w K) :
    ∃ fd : FuncData, (∀ (s : Shared) (v : Value), BindsTo s fd ⟨[v], []⟩ [("script", v)]) ∧ ∀ base : Heap, FnOk P w K mg base CX0 10 f fd ["script"] (lSp K ⟨Unit, fun _ => preL, fun _ _ v _ => v = .bl true, fun _ _ _ _ _ => False⟩) := by
  have c := ce.d
  have T : Tx w K mg := ⟨He.cls_ok (c.fact 0), ce.err 0, ce.err 1, He.free_ok X G (c.fact 1), He.free_ok X G (c.fact 2), He.free_ok X G (c.fact 3), He.free_ok X G (c.fact 4), He.free_ok X G (c.fact 5), He.free_ok X G (c.fact 6), He.free_ok X G (c.fact 7), He.free_ok X G (c.fact 8), He.free_ok X G (c.fact 9), He.free_ok X G (c.fact 10), He.free_ok X G (c.fact 11), He.glo_ok X G (c.fact 12), He.glo_ok X G (c.fact 13), He.glo_ok X G (c.fact 14), He.glo_ok X G (c.fact 15), He.glo_ok X G (c.fact 16), He.glo_ok X G (c.fact 17), He.glo_ok X G (c.fact 18), He.glo_ok X G (c.fact 19), He.glo_ok X G (c.fact 20), He.glo_ok X G (c.fact 21), He.glo_ok X G (c.fact 22), He.glo_ok X G (c.fact 23), He.glo_ok X G (c.fact 24), He.int_ok X G (c.fact 25), He.int_ok X G (c.fact 26), He.int_ok X G (c.fact 27), ce.kit 2, ce.kit 3, ce.kit 4, ce.kit 5, ce.kit 6, ce.kit 7, ce.kit 8, ce.kit 9, ce.kit 10, ce.kit 11, ce.kit 12, ce.kit 13, ce.kit 14, ce.kit 15, ce.kit 16, ce.kit 17, ce.kit 18, ce.kit 19, ce.kit 20, ce.kit 21, ce.kit 22, ce.kit 23, ce.kit 24, ce.kit 25, ce.kitT 26, ce.kitT 27, He.noat_ok (c.fact 28), ce.any (p := fun K => neoB (He.ga K "World") K) 28, He.exm_ok (c.fact 29), He.exm_ok (c.fact 30)⟩
  obtain ⟨fdl, Fl⟩ := c.def_ 28 (d := d_law) rfl
  have ef := hfa.symm.trans (He.glo_ok X G (c.fact 60))
  cases ef
  have b := FunD.bindsA (ps := ["script"]) Fl fun _ _ _ _ _ _ us hl => match us, hl with | [_], _ => rfl
  refine ⟨fdl, fun s v => b s [v] rfl, fun base => ?_⟩
  obtain ⟨fd_World___eq__, FD_World___eq__⟩ := c.def_ 0 (d := d_World___eq__) rfl
  obtain ⟨fd_is_there, FD_is_there⟩ := c.def_ 1 (d := d_is_there) rfl
  obtain ⟨fd_refs_of, FD_refs_of⟩ := c.def_ 2 (d := d_refs_of) rfl
  obtain ⟨fd_is_good, FD_is_good⟩ := c.def_ 3 (d := d_is_good) rfl
  obtain ⟨fd_World___init__, FD_World___init__⟩ := c.def_ 4 (d := d_World___init__) rfl
  obtain ⟨fd_World___len__, FD_World___len__⟩ := c.def_ 5 (d := d_World___len__) rfl
  obtain ⟨fd_ref_text, FD_ref_text⟩ := c.def_ 6 (d := d_ref_text) rfl
  obtain ⟨fd_thing_text, FD_thing_text⟩ := c.def_ 7 (d := d_thing_text) rfl
  obtain ⟨fd_house_text, FD_house_text⟩ := c.def_ 8 (d := d_house_text) rfl
  obtain ⟨fd_World___str__, FD_World___str__⟩ := c.def_ 9 (d := d_World___str__) rfl
  obtain ⟨fd_law_alike, FD_law_alike⟩ := c.def_ 10 (d := d_law_alike) rfl
  obtain ⟨fd_law_draw, FD_law_draw⟩ := c.def_ 11 (d := d_law_draw) rfl
  obtain ⟨fd_law_great, FD_law_great⟩ := c.def_ 12 (d := d_law_great) rfl
  obtain ⟨fd_World_house, FD_World_house⟩ := c.def_ 13 (d := d_World_house) rfl
  obtain ⟨fd_law_house_asked, FD_law_house_asked⟩ := c.def_ 14 (d := d_law_house_asked) rfl
  obtain ⟨fd_law_houses_right, FD_law_houses_right⟩ := c.def_ 15 (d := d_law_houses_right) rfl
  obtain ⟨fd_law_second, FD_law_second⟩ := c.def_ 16 (d := d_law_second) rfl
  obtain ⟨fd_law_ref, FD_law_ref⟩ := c.def_ 17 (d := d_law_ref) rfl
  obtain ⟨fd_World_thing, FD_World_thing⟩ := c.def_ 18 (d := d_World_thing) rfl
  obtain ⟨fd_law_thing_asked, FD_law_thing_asked⟩ := c.def_ 19 (d := d_law_thing_asked) rfl
  obtain ⟨fd_law_wild_ref, FD_law_wild_ref⟩ := c.def_ 20 (d := d_law_wild_ref) rfl
  obtain ⟨fd_law_things_right, FD_law_things_right⟩ := c.def_ 21 (d := d_law_things_right) rfl
  obtain ⟨fd_law_told, FD_law_told⟩ := c.def_ 22 (d := d_law_told) rfl
  obtain ⟨fd_law_tray, FD_law_tray⟩ := c.def_ 23 (d := d_law_tray) rfl
  obtain ⟨fd_law_sizes, FD_law_sizes⟩ := c.def_ 24 (d := d_law_sizes) rfl
  obtain ⟨fd_law_any, FD_law_any⟩ := c.def_ 25 (d := d_law_any) rfl
  obtain ⟨fd_law_thing, FD_law_thing⟩ := c.def_ 26 (d := d_law_thing) rfl
  obtain ⟨fd_law_world, FD_law_world⟩ := c.def_ 27 (d := d_law_world) rfl
  have FD_law := Fl
  obtain ⟨fd_SentError___init__, FD_SentError___init__⟩ := c.def_ 29 (d := d_SentError___init__) rfl
  have oe_SentError := ok_what (P := P) (w := w) (mg := mg) (base := base) FD_SentError___init__ sc_SentError___init__ rfl rfl
  have E_NoWorld : Ex P w K mg base "NoWorld" (cl K "NoWorld") := ex_of (y := "SentError") oe_SentError (He.glo_ok X G (c.fact 20)) (ce.ex 0) (FunD.bindsN FD_SentError___init__ fun _ _ _ _ _ _ us hl => match us, hl with | [_, _], _ => rfl)
  have E_NoHouse : Ex P w K mg base "NoHouse" (cl K "NoHouse") := ex_of (y := "SentError") oe_SentError (He.glo_ok X G (c.fact 13)) (ce.ex 1) (FunD.bindsN FD_SentError___init__ fun _ _ _ _ _ _ us hl => match us, hl with | [_, _], _ => rfl)
  have E_NoThing : Ex P w K mg base "NoThing" (cl K "NoThing") := ex_of (y := "SentError") oe_SentError (He.glo_ok X G (c.fact 19)) (ce.ex 2) (FunD.bindsN FD_SentError___init__ fun _ _ _ _ _ _ us hl => match us, hl with | [_, _], _ => rfl)
  have o_World___eq__ := ok_World___eq__ (P := P) (w := w) (mg := mg) (base := base) T FD_World___eq__
  have o_is_there := ok_is_there (P := P) (w := w) (mg := mg) (base := base) T FD_is_there
  have o_refs_of := ok_refs_of (P := P) (w := w) (mg := mg) (base := base) T FD_refs_of
  have G_is_there : Fn P w K mg base "is_there" 3 ["houses", "ref"] [] (fs_is_there) := ⟨⟨_, _, [], [], o_is_there, He.glo_ok X G (c.fact 31), FD_is_there.kp, .nil, fun _ => rels_nil.mpr rfl, (FunD.bindsN FD_is_there fun _ _ _ _ _ _ us hl => match us, hl with | [_, _], _ => rfl)⟩⟩
  have G_refs_of : Fn P w K mg base "refs_of" 3 ["thing"] [] (fs_refs_of) := ⟨⟨_, _, [], [], o_refs_of, He.glo_ok X G (c.fact 32), FD_refs_of.kp, .nil, fun _ => rels_nil.mpr rfl, (FunD.bindsN FD_refs_of fun _ _ _ _ _ _ us hl => match us, hl with | [_], _ => rfl)⟩⟩
  have o_is_good := ok_is_good (P := P) (w := w) (mg := mg) (base := base) T FD_is_good G_is_there G_refs_of
  have G_is_good : Fn P w K mg base "is_good" 4 ["houses", "things"] [] (fs_is_good) := ⟨⟨_, _, [], [], o_is_good, He.glo_ok X G (c.fact 33), FD_is_good.kp, .nil, fun _ => rels_nil.mpr rfl, (FunD.bindsN FD_is_good fun _ _ _ _ _ _ us hl => match us, hl with | [_, _], _ => rfl)⟩⟩
  have o_World___init__ := ok_World___init__ (P := P) (w := w) (mg := mg) (base := base) T FD_World___init__ G_is_good E_NoWorld
  have o_World___len__ := ok_World___len__ (P := P) (w := w) (mg := mg) (base := base) T FD_World___len__
  have o_ref_text := ok_ref_text (P := P) (w := w) (mg := mg) (base := base) T FD_ref_text
  have G_ref_text : Fn P w K mg base "ref_text" 3 ["ref"] [] (fs_ref_text) := ⟨⟨_, _, [], [], o_ref_text, He.glo_ok X G (c.fact 34), FD_ref_text.kp, .nil, fun _ => rels_nil.mpr rfl, (FunD.bindsN FD_ref_text fun _ _ _ _ _ _ us hl => match us, hl with | [_], _ => rfl)⟩⟩
  have o_thing_text := ok_thing_text (P := P) (w := w) (mg := mg) (base := base) T FD_thing_text G_ref_text
  have G_thing_text : Fn P w K mg base "thing_text" 4 ["thing"] [] (fs_thing_text) := ⟨⟨_, _, [], [], o_thing_text, He.glo_ok X G (c.fact 35), FD_thing_text.kp, .nil, fun _ => rels_nil.mpr rfl, (FunD.bindsN FD_thing_text fun _ _ _ _ _ _ us hl => match us, hl with | [_], _ => rfl)⟩⟩
  have o_house_text := ok_house_text (P := P) (w := w) (mg := mg) (base := base) T FD_house_text G_thing_text
  have G_house_text : Fn P w K mg base "house_text" 5 ["things"] [] (fs_house_text) := ⟨⟨_, _, [], [], o_house_text, He.glo_ok X G (c.fact 36), FD_house_text.kp, .nil, fun _ => rels_nil.mpr rfl, (FunD.bindsN FD_house_text fun _ _ _ _ _ _ us hl => match us, hl with | [_], _ => rfl)⟩⟩
  have o_World___str__ := ok_World___str__ (P := P) (w := w) (mg := mg) (base := base) T FD_World___str__ G_house_text
  have o_law_alike := ok_law_alike (P := P) (w := w) (mg := mg) (base := base) T FD_law_alike (He.glo_ok X G (c.fact 37)) 5
  have o_law_draw := ok_law_draw (P := P) (w := w) (mg := mg) (base := base) T FD_law_draw
  have G_law_draw : Fn P w K mg base "_law_draw" 3 ["tray", "many"] [] (fs_law_draw) := ⟨⟨_, _, [], [], o_law_draw, He.glo_ok X G (c.fact 38), FD_law_draw.kp, .nil, fun _ => rels_nil.mpr rfl, (FunD.bindsN FD_law_draw fun _ _ _ _ _ _ us hl => match us, hl with | [_, _], _ => rfl)⟩⟩
  have o_law_great := ok_law_great (P := P) (w := w) (mg := mg) (base := base) T FD_law_great G_law_draw
  have o_World_house := ok_World_house (P := P) (w := w) (mg := mg) (base := base) T FD_World_house E_NoHouse
  have G_World_house_kwnumber : MtK P w K mg base (cl K "World") "house" 3 ["self", "number"] 0 ["number"] [(.inr 0)] (fs_World_house (cl K)) := ⟨⟨_, _, o_World_house, He.meth_ok (c.fact 39), kbn_of FD_World_house 1 ["number"] _ fun _ _ _ _ _ _ us ws l1 l2 => match us, l1, ws, l2 with | [_], _, [_], _ => rfl⟩⟩
  have o_law_house_asked := ok_law_house_asked (P := P) (w := w) (mg := mg) (base := base) T FD_law_house_asked G_World_house_kwnumber
  have G_law_alike : Fn P w K mg base "_law_alike" 8 ["found", "due"] [] (fs_law_alike 5) := ⟨⟨_, _, [], [], o_law_alike, He.glo_ok X G (c.fact 37), FD_law_alike.kp, .nil, fun _ => rels_nil.mpr rfl, (FunD.bindsN FD_law_alike fun _ _ _ _ _ _ us hl => match us, hl with | [_, _], _ => rfl)⟩⟩
  have G_law_great : Fn P w K mg base "_law_great" 4 ["tray"] [] (fs_law_great) := ⟨⟨_, _, [], [], o_law_great, He.glo_ok X G (c.fact 40), FD_law_great.kp, .nil, fun _ => rels_nil.mpr rfl, (FunD.bindsN FD_law_great fun _ _ _ _ _ _ us hl => match us, hl with | [_], _ => rfl)⟩⟩
  have G_law_house_asked : Fn P w K mg base "_law_house_asked" 4 ["world", "spot"] [] (fs_law_house_asked (cl K)) := ⟨⟨_, _, [], [], o_law_house_asked, He.glo_ok X G (c.fact 41), FD_law_house_asked.kp, .nil, fun _ => rels_nil.mpr rfl, (FunD.bindsN FD_law_house_asked fun _ _ _ _ _ _ us hl => match us, hl with | [_, _], _ => rfl)⟩⟩
  have o_law_houses_right := ok_law_houses_right (P := P) (w := w) (mg := mg) (base := base) T FD_law_houses_right G_law_alike G_law_great G_law_house_asked
  have o_law_second := ok_law_second (P := P) (w := w) (mg := mg) (base := base) T FD_law_second G_law_draw
  have o_law_ref := ok_law_ref (P := P) (w := w) (mg := mg) (base := base) T FD_law_ref G_law_draw
  have o_World_thing := ok_World_thing (P := P) (w := w) (mg := mg) (base := base) T FD_World_thing G_is_there E_NoThing
  have G_World_thing_kwref : MtK P w K mg base (cl K "World") "thing" 4 ["self", "ref"] 0 ["ref"] [(.inr 0)] (fs_World_thing (cl K)) := ⟨⟨_, _, o_World_thing, He.meth_ok (c.fact 42), kbn_of FD_World_thing 1 ["ref"] _ fun _ _ _ _ _ _ us ws l1 l2 => match us, l1, ws, l2 with | [_], _, [_], _ => rfl⟩⟩
  have o_law_thing_asked := ok_law_thing_asked (P := P) (w := w) (mg := mg) (base := base) T FD_law_thing_asked G_World_thing_kwref
  have o_law_wild_ref := ok_law_wild_ref (P := P) (w := w) (mg := mg) (base := base) T FD_law_wild_ref G_law_draw G_law_great
  have G_law_ref : Fn P w K mg base "_law_ref" 4 ["tray", "sizes"] [] (fs_law_ref) := ⟨⟨_, _, [], [], o_law_ref, He.glo_ok X G (c.fact 43), FD_law_ref.kp, .nil, fun _ => rels_nil.mpr rfl, (FunD.bindsN FD_law_ref fun _ _ _ _ _ _ us hl => match us, hl with | [_, _], _ => rfl)⟩⟩
  have G_law_thing_asked : Fn P w K mg base "_law_thing_asked" 5 ["world", "named"] [] (fs_law_thing_asked (cl K)) := ⟨⟨_, _, [], [], o_law_thing_asked, He.glo_ok X G (c.fact 44), FD_law_thing_asked.kp, .nil, fun _ => rels_nil.mpr rfl, (FunD.bindsN FD_law_thing_asked fun _ _ _ _ _ _ us hl => match us, hl with | [_, _], _ => rfl)⟩⟩
  have G_law_wild_ref : Fn P w K mg base "_law_wild_ref" 5 ["tray", "sizes"] [] (fs_law_wild_ref_v1) := ⟨⟨_, _, [], [], o_law_wild_ref, He.glo_ok X G (c.fact 45), FD_law_wild_ref.kp, .nil, fun _ => rels_nil.mpr rfl, (FunD.bindsN FD_law_wild_ref fun _ _ _ _ _ _ us hl => match us, hl with | [_, _], _ => rfl)⟩⟩
  have o_law_things_right := ok_law_things_right (P := P) (w := w) (mg := mg) (base := base) T FD_law_things_right G_law_alike G_law_draw G_law_ref G_law_thing_asked G_law_wild_ref
  have G_World___len__ : Mt P w K mg base (cl K "World") "__len__" 3 ["self"] [] (fs_World___len__ (cl K)) := ⟨⟨_, _, [], [], o_World___len__, He.meth_ok (c.fact 46), .nil, fun _ => rels_nil.mpr rfl, (FunD.bindsN FD_World___len__ fun _ _ _ _ _ _ us hl => match us, hl with | [_], _ => rfl)⟩⟩
  have G_World_house : Mt P w K mg base (cl K "World") "house" 3 ["self", "number"] [] (fs_World_house (cl K)) := ⟨⟨_, _, [], [], o_World_house, He.meth_ok (c.fact 39), .nil, fun _ => rels_nil.mpr rfl, (FunD.bindsN FD_World_house fun _ _ _ _ _ _ us hl => match us, hl with | [_, _], _ => rfl)⟩⟩
  have o_law_told := ok_law_told (P := P) (w := w) (mg := mg) (base := base) T FD_law_told G_World___len__ G_World_house G_law_alike
  have o_law_tray := ok_law_tray (P := P) (w := w) (mg := mg) (base := base) T FD_law_tray
  have o_law_sizes := ok_law_sizes (P := P) (w := w) (mg := mg) (base := base) T FD_law_sizes G_law_draw
  have o_law_any := ok_law_any (P := P) (w := w) (mg := mg) (base := base) T FD_law_any G_law_draw
  have G_law_any : Fn P w K mg base "_law_any" 4 ["tray"] [] (fs_law_any) := ⟨⟨_, _, [], [], o_law_any, He.glo_ok X G (c.fact 47), FD_law_any.kp, .nil, fun _ => rels_nil.mpr rfl, (FunD.bindsN FD_law_any fun _ _ _ _ _ _ us hl => match us, hl with | [_], _ => rfl)⟩⟩
  have o_law_thing := ok_law_thing (P := P) (w := w) (mg := mg) (base := base) T FD_law_thing G_law_any G_law_draw G_law_ref
  have G_law_sizes : Fn P w K mg base "_law_sizes" 4 ["tray"] [] (fs_law_sizes) := ⟨⟨_, _, [], [], o_law_sizes, He.glo_ok X G (c.fact 48), FD_law_sizes.kp, .nil, fun _ => rels_nil.mpr rfl, (FunD.bindsN FD_law_sizes fun _ _ _ _ _ _ us hl => match us, hl with | [_], _ => rfl)⟩⟩
  have G_law_thing : Fn P w K mg base "_law_thing" 5 ["tray", "sizes"] [] (fs_law_thing) := ⟨⟨_, _, [], [], o_law_thing, He.glo_ok X G (c.fact 49), FD_law_thing.kp, .nil, fun _ => rels_nil.mpr rfl, (FunD.bindsN FD_law_thing fun _ _ _ _ _ _ us hl => match us, hl with | [_, _], _ => rfl)⟩⟩
  have o_law_world := ok_law_world (P := P) (w := w) (mg := mg) (base := base) T FD_law_world G_law_sizes G_law_thing
  have G_World___eq__ : Mt P w K mg base (cl K "World") "__eq__" 3 ["self", "other"] [] (fs_World___eq__ (cl K)) := ⟨⟨_, _, [], [], o_World___eq__, He.meth_ok (c.fact 50), .nil, fun _ => rels_nil.mpr rfl, (FunD.bindsN FD_World___eq__ fun _ _ _ _ _ _ us hl => match us, hl with | [_, _], _ => rfl)⟩⟩
  have G_World___init__ : Ck P w K mg base "World" (cl K "World") 5 ["self", "houses"] [] (fs_World___init__ (cl K)) := ⟨⟨_, _, [], [], o_World___init__, He.glo_ok X G (c.fact 51), He.mkr_ok (c.fact 52), .nil, fun _ => rels_nil.mpr rfl, (FunD.bindsN FD_World___init__ fun _ _ _ _ _ _ us hl => match us, hl with | [_, _], _ => rfl)⟩⟩
  have G_World___str__ : Mt P w K mg base (cl K "World") "__str__" 6 ["self"] [] (fs_World___str__ (cl K)) := ⟨⟨_, _, [], [], o_World___str__, He.meth_ok (c.fact 53), .nil, fun _ => rels_nil.mpr rfl, (FunD.bindsN FD_World___str__ fun _ _ _ _ _ _ us hl => match us, hl with | [_], _ => rfl)⟩⟩
  have G_law_houses_right : Fn P w K mg base "_law_houses_right" 9 ["tray", "world", "houses"] [] (fs_law_houses_right (cl K)) := ⟨⟨_, _, [], [], o_law_houses_right, He.glo_ok X G (c.fact 54), FD_law_houses_right.kp, .nil, fun _ => rels_nil.mpr rfl, (FunD.bindsN FD_law_houses_right fun _ _ _ _ _ _ us hl => match us, hl with | [_, _, _], _ => rfl)⟩⟩
  have G_law_second : Fn P w K mg base "_law_second" 4 ["tray", "houses"] [] (fs_law_second) := ⟨⟨_, _, [], [], o_law_second, He.glo_ok X G (c.fact 55), FD_law_second.kp, .nil, fun _ => rels_nil.mpr rfl, (FunD.bindsN FD_law_second fun _ _ _ _ _ _ us hl => match us, hl with | [_, _], _ => rfl)⟩⟩
  have G_law_things_right : Fn P w K mg base "_law_things_right" 9 ["tray", "world", "houses"] [] (fs_law_things_right (cl K)) := ⟨⟨_, _, [], [], o_law_things_right, He.glo_ok X G (c.fact 56), FD_law_things_right.kp, .nil, fun _ => rels_nil.mpr rfl, (FunD.bindsN FD_law_things_right fun _ _ _ _ _ _ us hl => match us, hl with | [_, _, _], _ => rfl)⟩⟩
  have G_law_told : Fn P w K mg base "_law_told" 9 ["world", "houses"] [] (fs_law_told_v1 (cl K)) := ⟨⟨_, _, [], [], o_law_told, He.glo_ok X G (c.fact 57), FD_law_told.kp, .nil, fun _ => rels_nil.mpr rfl, (FunD.bindsN FD_law_told fun _ _ _ _ _ _ us hl => match us, hl with | [_, _], _ => rfl)⟩⟩
  have G_law_tray : Fn P w K mg base "_law_tray" 3 ["script"] [] (fs_law_tray) := ⟨⟨_, _, [], [], o_law_tray, He.glo_ok X G (c.fact 58), FD_law_tray.kp, .nil, fun _ => rels_nil.mpr rfl, (FunD.bindsN FD_law_tray fun _ _ _ _ _ _ us hl => match us, hl with | [_], _ => rfl)⟩⟩
  have G_law_world : Fn P w K mg base "_law_world" 6 ["tray"] [] (fs_law_world_v1) := ⟨⟨_, _, [], [], o_law_world, He.glo_ok X G (c.fact 59), FD_law_world.kp, .nil, fun _ => rels_nil.mpr rfl, (FunD.bindsN FD_law_world fun _ _ _ _ _ _ us hl => match us, hl with | [_], _ => rfl)⟩⟩
  exact ok_law T FD_law G_World___eq__ G_World___init__ G_World___len__ G_World___str__ G_law_alike G_law_houses_right G_law_second G_law_things_right G_law_told G_law_tray G_law_world
end K03
end Z
open PySem PySem.W PySem.Calls PyProof.Rows
theorem PySem.Challenge.cw_sentahead_k03_things_asked_holds : PySem.Challenge.rw_sentahead_k03_things_asked.Holds := by
  w_on; o_law
  refine HandSHeadRun.head_any (r := OpenLaw.row PySem.Challenge.rw_sentahead_k03_things_asked) (q := view (OpenLaw.row PySem.Challenge.rw_sentahead_k03_things_asked).prog [43]) (H := Z.K03.hk) (ob := Z.K03.ob) (M := 4000) (loose := Z.K03.nms) (d := HandSHeadRun.topDef (OpenLaw.row PySem.Challenge.rw_sentahead_k03_things_asked).prog 43) (kwd := []) Z.K03.ob_eq
    (by kernel_rfl) (fun s => by kernel_rfl) Z.K03.run (by kernel_rfl) (by kernel_rfl) (by kernel_rfl) (by rfl) (by first | assumption | decide +kernel) (by decide +kernel) ⟨rfl, rfl, rfl, rfl, rfl, by decide +kernel⟩ ?hw ?hc
  case hw => w_witness2
  case hc =>
    refine L2.walk_ofE (l := PySem.Challenge.rw_sentahead_k03_things_asked) (n := 63) (k := 10) (x := "script") (CX := L2.CX0) rfl (by decide) (by kernel_rfl) ⟨rfl, by decide, by decide⟩ ?F (fun _ _ _ _ z => z)
    intro w mg fa h Y G hmg0
    obtain ⟨K, KX, c⟩ := Y
    have hmg : mg ("law" : PySem.Str) = some (.ref fa) := by
      have e : (HandSHeadRun.topDef (OpenLaw.row PySem.Challenge.rw_sentahead_k03_things_asked).prog 43).name = ("law" : PySem.Str) := by kernel_rfl
      rw [← e]
      exact hmg0
    obtain ⟨fd, hb, hF⟩ := Z.K03.facts (P := (PySem.Challenge.rw_sentahead_k03_things_asked).prog) (w := w) KX G hmg c
    exact ⟨K, fd, _, KX, hb, fun H a ns hl _ hS => Z.law_sp hl hS, fun base _ _ => hF base⟩

